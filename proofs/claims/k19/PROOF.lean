import PyProof.Rows.All
import Wide.All
import OpenK.AllK
import Wide.FinOn
import KE.KStateDown
import KE.KOpsOwn
import KE.KCallOwn
import KE.KSuper
import HandS.ForMost
import HandS.Defaults
import HandS.ClsMeth
import HandS.Property
import HandS.Exc
import HandS.Head0
import HandS.Head1
import HandS.Head2
import HandS.HeadEnd
import HandS.HeadHook1
import HandS.HeadHook2
import HandS.HeadHook3
import HandS.Wide
import HandS.Deep
import HandS.Star
import HandS.Walk
import HandS.Zip
import HandS.IsInst
import HandS.FStr
import HandS.Strs
import HandS.RaiseMore
import HandS.TupAny
import KE.KFromBytes
import HandS.ExcSuper
import HandS.Nested
import KE.KStar
import PyProof.EnumMake
import PyProof.Draws
import PyProof.ZipIter
import KE.GoesMore
import KE.GoesZip
import PyProof.ReprRoads
import HandS.More
import HandS.ExcOwn
import HandS.TryOnly
import HandS.WordsExc
import PyProof.RulesMatchSeq
import HandS.Text
import PyProof.ReprLen
import HandS.MakeKwOnly
import PySem.Challenge.RW_heardby_k19_whole_books_read_back
set_option Elab.async false
set_option linter.all false
set_option maxRecDepth 100000
set_option maxHeartbeats 4000000
/-! the facts of the text, looked at by one Bool (printed by genf.py) -/
namespace HB
open PySem L2 PySem.Spec PyProof.Rows
abbrev Fr0 := PySem.W.Frag
def top (i : Nat) : Stmt := PySem.Challenge.pw_heardby_k19_whole_books_read_back.main.body.getD i (.Pass ⟨0, 0, 0, 0⟩)
/-- the object that a class's name stands for -/
def oAd (K : Fr0) (C m : Str) : Addr := match PySem.W.findIn K (.ref (He.ga K C)) m with
  | some (some (.ref b)) => b
  | _ => 0
/-- the def behind it: a property's getter, a classmethod's def -/
def mAd (K : Fr0) (C m : Str) : Addr := match K.lookup (oAd K C m) with
  | some ⟨_, _, .fields vs, _⟩ => (match vs.toList with
    | .ref g :: _ => g
    | _ => 0)
  | _ => oAd K C m
def bMeth (C m : Str) (K : Fr0) : Bool := He.eqO (PySem.W.findIn K (.ref (He.ga K C)) m) (some (some (.ref (mAd K C m)))) && (PySem.W.isFn K (.ref (mAd K C m)) && PySem.W.keepIn K (.ref (mAd K C m)))
def bOwn (C m : Str) (K : Fr0) (D : Str) : Bool := He.eqO (PySem.W.findIn K (.ref (He.ga K D)) m) (some (some (.ref (mAd K C m)))) && PySem.W.isFn K (.ref (mAd K C m))
def bMk (C : Str) (K : Fr0) : Bool := PySem.W.makesIn K (He.ga K C) && (He.eqO (PySem.W.findIn K (.ref (He.ga K C)) "__init__") (some (some (.ref (mAd K C "__init__")))) && (PySem.W.isFn K (.ref (mAd K C "__init__")) && PySem.W.keepIn K (.ref (He.ga K C))))
def bRead (K : Fr0) : Bool := PySem.W.readsIn K (He.ga K "Book") (.type "type") && He.eqO (PySem.W.specialIn K (.ref (He.ga K "Book")) "__getattribute__") (some (some (.builtin "type.__getattribute__")))
def bCV (n : Str) (i : Int) (K : Fr0) : Bool := match PySem.W.findCls K (.ref (He.ga K "Book")) (.type "type") n with
  | some (.val (.int j _)) => decide (j = i)
  | _ => false
def bRec (K : Fr0) (p g : Addr) (T : String) : Bool := match PySem.W.recIn K p T with
  | some (.ref h :: _) => decide (h = g)
  | _ => false
def bProp (K : Fr0) : Bool := He.eqO (PySem.W.findIn K (.ref (He.ga K "Book")) "begin_limit") (some (some (.ref (oAd K "Book" "begin_limit")))) && (He.eqO (PySem.W.specialIn K (.ref (oAd K "Book" "begin_limit")) "__get__") (some (some (.builtin "property.__get__"))) &&
  (decide (PySem.W.takesIn K (.ref (oAd K "Book" "begin_limit")) = some true) && bRec K (oAd K "Book" "begin_limit") (mAd K "Book" "begin_limit") "property"))
def bCm (K : Fr0) : Bool := (match PySem.W.findCls K (.ref (He.ga K "Book")) (.type "type") "read" with
  | some (.get (.builtin s) (.ref p) .none (.ref B)) => decide (s = "classmethod.__get__") && (decide (p = oAd K "Book" "read") && decide (B = He.ga K "Book"))
  | _ => false) && (bRec K (oAd K "Book" "read") (mAd K "Book" "read") "classmethod" && PySem.W.fnIn K (mAd K "Book" "read"))
def bTup (K : Fr0) (a : Addr) (xs : List Str) : Bool := match K.lookup a with
  | some ⟨.type c, _, .seq its _, _⟩ => decide (c = "tuple") && (decide (its.size ≤ sizeLine) && He.relAll (xs.map V.str) its.toList)
  | _ => false
def bKi (K : Fr0) : Bool := match K.lookup (He.ga K "KINDS") with
  | some ⟨.type c, none, _, _⟩ => decide (c = "tuple")
  | _ => false
def bEnt (x : Str) (xs : List Str) (K : Fr0) : Bool := match PySem.W.nsIn K (He.ga K "FORMS") x with
  | some (some (.ref t)) => bTup K t xs
  | _ => false
def bOrC (C : Str) (K : Fr0) (D : Str) : Bool := PySem.W.selfFirst K (He.ga K D) && (bOwn C "__or__" K D && (He.eqO (PySem.W.findIn K (.ref (He.ga K D)) "__ror__") (some none) && (PySem.W.readsIn K (He.ga K D) (.type "type") && decide (PySem.W.instIn K (.ref (He.ga K D)) (.type "type") = some true))))
def bOrP (K : Fr0) (C D : Str) : Bool := decide (He.ga K C = He.ga K D) || (PySem.W.subIn K (.ref (He.ga K D)) (.ref (He.ga K C))).isSome
def bEq (K : Fr0) (C D : Str) : Bool := match decide (He.ga K C = He.ga K "Claim") && !decide (He.ga K D = He.ga K C) with
  | true => decide (PySem.W.subIn K (.ref (He.ga K D)) (.ref (He.ga K C)) = some true)
  | false => PySem.W.notFirst K (He.ga K C) (.ref (He.ga K D))
def bIns (K : Fr0) (C : Str) : Bool := (He.Fa.cls C).ok K && (He.eqO (PySem.W.findIn K (.ref (He.ga K C)) "__class__") (some (some (.builtin "object.__class__"))) && (He.eqO (PySem.W.specialIn K (.builtin "object.__class__") "__get__") (some (some (.builtin "getset_descriptor.__get__"))) &&
  (decide (PySem.W.takesIn K (.builtin "object.__class__") = some true) && decide (PySem.W.mroIn K (He.ga K C) (.type "object") = some true))))
def bKit (K : Fr0) (t c : Value) (b : Bool) : Bool := decide (PySem.W.kitOne K t c = some b)
def cl6 : List Str := ["Claim", "Knew", "Told", "Began", "Held", "Turned"]
/-! the defs' records -/
abbrev FnY : Type := Option (Str × Str × Arguments × FuncBody × Scope × Addr × List Str × Addr)
def fnY (K : Fr0) (f : Addr) : FnY := match K.lookup f with
  | some ⟨_, _, .func fd, _⟩ => some (fd.name, fd.qualname, fd.params, fd.body, fd.scope, fd.globals, fd.closure.map (·.1), fd.builtins)
  | _ => none
/-- the one default of a def, if it is an object -/
def dfl0 (K : Fr0) (f : Addr) : Addr := match K.lookup f with
  | some ⟨_, _, .func fd, _⟩ => (match fd.defaults with
    | .ref T => (match K.lookup T with
      | some ⟨_, _, .seq its _, _⟩ => (match its.toList with
        | .ref a :: _ => a
        | _ => 0)
      | _ => 0)
    | _ => 0)
  | _ => 0
structure Dn where
  ad : Fr0 → Addr
  name : Str
  qual : Str
  params : Arguments
  body : List Stmt
  scope : Scope
  cl : List Str
  dfl : List He.Dv
  kwd : List (Str × He.Dv)
def Dn.val (d : Dn) : FnY := some (d.name, d.qual, d.params, .stmts d.body, d.scope, mainGlobals, d.cl, builtinsNs)
def Dn.dvs (K : Fr0) (d : Dn) : List V := d.dfl.map (He.Dv.v K)
def Dn.kws (K : Fr0) (d : Dn) : List (Str × V) := d.kwd.map fun q => (q.1, q.2.v K)
def Dn.ok (K : Fr0) (d : Dn) : Bool := PySem.W.keepIn K (.ref (d.ad K)) && (match K.lookup (d.ad K) with
  | some ⟨_, _, .func fd, _⟩ => PySem.W.codeIn K fd.code d.qual && (He.dflB K fd.defaults (d.dvs K) && He.kwdB K fd.kwdefaults (d.kws K))
  | _ => false)
theorem Dn.fnx {K : Fr0} {d : Dn} (e : fnY K (d.ad K) = d.val) (c : d.ok K = true) : ∃ (oc : Value) (od : Option Addr) (osl : Array (Option Value)) (cl : List (Str × Addr)) (dV kV doc pm : Value) (an : Option Addr) (cdv ct : Value),
    cl.map (·.1) = d.cl ∧ K.lookup (d.ad K) = some ⟨oc, od, .func (PySem.W.fnX d.name d.qual d.params d.body d.scope cl dV kV doc pm an cdv ct), osl⟩ ∧ PySem.W.codeIn K cdv d.qual = true ∧ DflV K dV (d.dvs K) ∧ KwdV K kV (d.kws K) ∧ PySem.W.keepIn K (.ref (d.ad K)) = true := by
  obtain ⟨kp, c2⟩ := He.ba c
  unfold fnY at e
  cases q : K.lookup (d.ad K) with
  | none => rw [q] at c2; cases c2
  | some o =>
    obtain ⟨oc, od, dt, osl⟩ := o
    rw [q] at c2 e
    cases dt with
    | func fd =>
      obtain ⟨n1, n2, n3, n4, n5, n6, n7, n8, n9, n10, n11, n12, n13, n14, n15⟩ := fd
      have e2 : (some (n1, n2, n3, n4, n5, n6, n7.map (·.1), n15) : FnY) = some (d.name, d.qual, d.params, .stmts d.body, d.scope, mainGlobals, d.cl, builtinsNs) := e
      simp only [Option.some.injEq, Prod.mk.injEq] at e2
      obtain ⟨h1, h2, h3, h4, h5, h6, h7, h8⟩ := e2
      subst h1 h2 h3 h4 h5 h6 h8
      have c3 : (PySem.W.codeIn K n13 d.qual && (He.dflB K n8 (d.dvs K) && He.kwdB K n9 (d.kws K))) = true := c2
      obtain ⟨k1, k2⟩ := He.ba c3
      obtain ⟨k3, k4⟩ := He.ba k2
      exact ⟨oc, od, osl, n7, n8, n9, n10, n11, n12, n13, n14, h7, rfl, k1, He.dflB_ok k3, He.kwdB_ok k4, kp⟩
    | _ => cases c2
theorem Dn.funD {K : Fr0} {d : Dn} (hc : d.cl = []) (e : fnY K (d.ad K) = d.val) (c : d.ok K = true) : ∃ fd, FunD K d.name d.qual d.params d.body d.scope (d.dvs K) (d.kws K) (d.ad K) fd := by
  obtain ⟨oc, od, osl, cl, dV, kV, doc, pm, an, cdv, ct, h1, h2, h3, h4, h5, h6⟩ := Dn.fnx e c
  rw [hc] at h1
  have h1 : cl = [] := List.map_eq_nil_iff.mp h1
  subst h1
  exact ⟨_, ⟨oc, od, dV, kV, doc, pm, an, cdv, ct, osl, rfl, h2, h3, h4, h5⟩, h6⟩
/-- the frame of a subclass's __init__ -/
def bSup (C q : Str) (K : Fr0) : Bool := match K.lookup (mAd K C "__init__") with
  | some ⟨_, _, .func fd, _⟩ => (match fd.closure, fd.code with
    | [(x, cc)], .ref cda => decide (x = "__class__") && (PySem.W.codeIn K (.ref cda) q && ((match K.lookup cda with
        | some ⟨_, _, .fields vs, _⟩ => (match (vs[2]? : Option Value) with
          | some (.str fl _) => ((PySem.Challenge.pw_heardby_k19_whole_books_read_back.main.file : Str) == fl)
          | _ => false)
        | _ => false) && ((match K.lookup cc with
        | some ⟨_, _, .cell (some (.ref d)), _⟩ => decide (d = He.ga K C)
        | _ => false) && (PySem.W.isClsIn K (He.ga K C) && (decide (PySem.W.mroIn K (He.ga K C) (.ref (He.ga K C)) = some true) && (He.eqO (PySem.W.nsIn K cStatics "thirdparty.any") (some none) &&
        (He.eqO (PySem.W.ks_superIn K (He.ga K C) (He.ga K C) "__init__") (some (some (.ref (mAd K "Claim" "__init__")))) && (PySem.W.isFn K (.ref (mAd K "Claim" "__init__")) && PySem.W.fnIn K (mAd K "Claim" "__init__")))))))))
    | _, _ => false)
  | _ => false
def d_is_name : Dn := ⟨fun K => He.ga K "is_name", "is_name", "is_name", defArgs (top 19), defBody (top 19), defScope (top 19), [], [], []⟩
def d_check_names : Dn := ⟨fun K => He.ga K "check_names", "check_names", "check_names", defArgs (top 20), defBody (top 20), defScope (top 20), [], [], []⟩
def d_number_of : Dn := ⟨fun K => He.ga K "number_of", "number_of", "number_of", defArgs (top 21), defBody (top 21), defScope (top 21), [], [], []⟩
def d_claim_text : Dn := ⟨fun K => He.ga K "claim_text", "claim_text", "claim_text", defArgs (top 24), defBody (top 24), defScope (top 24), [], [], []⟩
def d_Claim_init : Dn := ⟨fun K => mAd K "Claim" "__init__", "__init__", "Claim.__init__", defArgs (inClass (top 25) 0), defBody (inClass (top 25) 0), defScope (inClass (top 25) 0), [], [.bl true], []⟩
def d_Claim_invert : Dn := ⟨fun K => mAd K "Claim" "__invert__", "__invert__", "Claim.__invert__", defArgs (inClass (top 25) 1), defBody (inClass (top 25) 1), defScope (inClass (top 25) 1), [], [], []⟩
def d_Clause_init : Dn := ⟨fun K => mAd K "Clause" "__init__", "__init__", "Clause.__init__", defArgs (inClass (top 31) 0), defBody (inClass (top 31) 0), defScope (inClass (top 31) 0), [], [], []⟩
def d_Claim_or : Dn := ⟨fun K => mAd K "Claim" "__or__", "__or__", "Claim.__or__", defArgs (inClass (top 25) 2), defBody (inClass (top 25) 2), defScope (inClass (top 25) 2), [], [], []⟩
def d_Claim_eq : Dn := ⟨fun K => mAd K "Claim" "__eq__", "__eq__", "Claim.__eq__", defArgs (inClass (top 25) 3), defBody (inClass (top 25) 3), defScope (inClass (top 25) 3), [], [], []⟩
def d_Claim_str : Dn := ⟨fun K => mAd K "Claim" "__str__", "__str__", "Claim.__str__", defArgs (inClass (top 25) 4), defBody (inClass (top 25) 4), defScope (inClass (top 25) 4), [], [], []⟩
def d_Clause_claims : Dn := ⟨fun K => mAd K "Clause" "claims", "claims", "Clause.claims", defArgs (inClass (top 31) 1), defBody (inClass (top 31) 1), defScope (inClass (top 31) 1), [], [], []⟩
def d_Clause_or : Dn := ⟨fun K => mAd K "Clause" "__or__", "__or__", "Clause.__or__", defArgs (inClass (top 31) 2), defBody (inClass (top 31) 2), defScope (inClass (top 31) 2), [], [], []⟩
def d_Clause_len : Dn := ⟨fun K => mAd K "Clause" "__len__", "__len__", "Clause.__len__", defArgs (inClass (top 31) 4), defBody (inClass (top 31) 4), defScope (inClass (top 31) 4), [], [], []⟩
def d_Clause_str : Dn := ⟨fun K => mAd K "Clause" "__str__", "__str__", "Clause.__str__", defArgs (inClass (top 31) 5), defBody (inClass (top 31) 5), defScope (inClass (top 31) 5), [], [], []⟩
def d_joined : Dn := ⟨fun K => He.ga K "joined", "joined", "joined", defArgs (top 32), defBody (top 32), defScope (top 32), [], [], []⟩
def d_read_word : Dn := ⟨fun K => He.ga K "read_word", "read_word", "read_word", defArgs (top 33), defBody (top 33), defScope (top 33), [], [], []⟩
def d_parse_claim : Dn := ⟨fun K => He.ga K "parse_claim", "parse_claim", "parse_claim", defArgs (top 34), defBody (top 34), defScope (top 34), [], [], []⟩
def d_parse_clause : Dn := ⟨fun K => He.ga K "parse_clause", "parse_clause", "parse_clause", defArgs (top 35), defBody (top 35), defScope (top 35), [], [], []⟩
def d_read_names : Dn := ⟨fun K => He.ga K "read_names", "read_names", "read_names", defArgs (top 38), defBody (top 38), defScope (top 38), [], [], []⟩
def d_read_last : Dn := ⟨fun K => He.ga K "read_last", "read_last", "read_last", defArgs (top 39), defBody (top 39), defScope (top 39), [], [], []⟩
def d_read_limit : Dn := ⟨fun K => He.ga K "read_limit", "read_limit", "read_limit", defArgs (top 40), defBody (top 40), defScope (top 40), [], [], []⟩
def d_read_line : Dn := ⟨fun K => He.ga K "read_line", "read_line", "read_line", defArgs (top 41), defBody (top 41), defScope (top 41), [], [], []⟩
def d_limit_line : Dn := ⟨fun K => He.ga K "limit_line", "limit_line", "limit_line", defArgs (top 42), defBody (top 42), defScope (top 42), [], [], []⟩
def d_check_known : Dn := ⟨fun K => He.ga K "check_known", "check_known", "check_known", defArgs (top 44), defBody (top 44), defScope (top 44), [], [], []⟩
def d_Book_people : Dn := ⟨fun K => mAd K "Book" "people", "people", "Book.people", defArgs (inClass (top 51) 14), defBody (inClass (top 51) 14), defScope (inClass (top 51) 14), [], [], []⟩
def d_check_told : Dn := ⟨fun K => He.ga K "check_told", "check_told", "check_told", defArgs (top 45), defBody (top 45), defScope (top 45), [], [], []⟩
def d_Book_meetings : Dn := ⟨fun K => mAd K "Book" "meetings", "meetings", "Book.meetings", defArgs (inClass (top 51) 16), defBody (inClass (top 51) 16), defScope (inClass (top 51) 16), [], [], []⟩
def d_Book_versions : Dn := ⟨fun K => mAd K "Book" "versions", "versions", "Book.versions", defArgs (inClass (top 51) 15), defBody (inClass (top 51) 15), defScope (inClass (top 51) 15), [], [], []⟩
def d_check_claim : Dn := ⟨fun K => He.ga K "check_claim", "check_claim", "check_claim", defArgs (top 46), defBody (top 46), defScope (top 46), [], [], []⟩
def d_check_claims : Dn := ⟨fun K => He.ga K "check_claims", "check_claims", "check_claims", defArgs (top 47), defBody (top 47), defScope (top 47), [], [], []⟩
def d_names_refused : Dn := ⟨fun K => He.ga K "names_refused", "names_refused", "names_refused", defArgs (top 50), defBody (top 50), defScope (top 50), [], [], []⟩
def d_Book_init : Dn := ⟨fun K => mAd K "Book" "__init__", "__init__", "Book.__init__", defArgs (inClass (top 51) 9), defBody (inClass (top 51) 9), defScope (inClass (top 51) 9), [], [.adr fun K => dfl0 K (mAd K "Book" "__init__")], [("last", .int 10)]⟩
def d_Book__keep : Dn := ⟨fun K => mAd K "Book" "_keep", "_keep", "Book._keep", defArgs (inClass (top 51) 22), defBody (inClass (top 51) 22), defScope (inClass (top 51) 22), [], [], []⟩
def d_Book_meet : Dn := ⟨fun K => mAd K "Book" "meet", "meet", "Book.meet", defArgs (inClass (top 51) 23), defBody (inClass (top 51) 23), defScope (inClass (top 51) 23), [], [], [("sure", .bl true)]⟩
def d_Book_may_turn : Dn := ⟨fun K => mAd K "Book" "may_turn", "may_turn", "Book.may_turn", defArgs (inClass (top 51) 24), defBody (inClass (top 51) 24), defScope (inClass (top 51) 24), [], [], []⟩
def d_Book_change : Dn := ⟨fun K => mAd K "Book" "change", "change", "Book.change", defArgs (inClass (top 51) 27), defBody (inClass (top 51) 27), defScope (inClass (top 51) 27), [], [], []⟩
def d_Book_fact : Dn := ⟨fun K => mAd K "Book" "fact", "fact", "Book.fact", defArgs (inClass (top 51) 25), defBody (inClass (top 51) 25), defScope (inClass (top 51) 25), [], [], []⟩
def d_Book__do : Dn := ⟨fun K => mAd K "Book" "_do", "_do", "Book._do", defArgs (inClass (top 51) 32), defBody (inClass (top 51) 32), defScope (inClass (top 51) 32), [], [], []⟩
def d_Book_read : Dn := ⟨fun K => mAd K "Book" "read", "read", "Book.read", defArgs (inClass (top 51) 11), defBody (inClass (top 51) 11), defScope (inClass (top 51) 11), [], [], []⟩
def d_Book_begin_limit : Dn := ⟨fun K => mAd K "Book" "begin_limit", "begin_limit", "Book.begin_limit", defArgs (inClass (top 51) 12), defBody (inClass (top 51) 12), defScope (inClass (top 51) 12), [], [], []⟩
def d_Book_turns : Dn := ⟨fun K => mAd K "Book" "turns", "turns", "Book.turns", defArgs (inClass (top 51) 17), defBody (inClass (top 51) 17), defScope (inClass (top 51) 17), [], [], []⟩
def d_Book_facts : Dn := ⟨fun K => mAd K "Book" "facts", "facts", "Book.facts", defArgs (inClass (top 51) 18), defBody (inClass (top 51) 18), defScope (inClass (top 51) 18), [], [], []⟩
def d_Book_limits : Dn := ⟨fun K => mAd K "Book" "limits", "limits", "Book.limits", defArgs (inClass (top 51) 19), defBody (inClass (top 51) 19), defScope (inClass (top 51) 19), [], [], []⟩
def d_Book_len : Dn := ⟨fun K => mAd K "Book" "__len__", "__len__", "Book.__len__", defArgs (inClass (top 51) 20), defBody (inClass (top 51) 20), defScope (inClass (top 51) 20), [], [], []⟩
def d_Book_contains : Dn := ⟨fun K => mAd K "Book" "__contains__", "__contains__", "Book.__contains__", defArgs (inClass (top 51) 21), defBody (inClass (top 51) 21), defScope (inClass (top 51) 21), [], [], []⟩
def d_Book_text : Dn := ⟨fun K => mAd K "Book" "text", "text", "Book.text", defArgs (inClass (top 51) 31), defBody (inClass (top 51) 31), defScope (inClass (top 51) 31), [], [], []⟩
def d__law_bool : Dn := ⟨fun K => He.ga K "_law_bool", "_law_bool", "_law_bool", defArgs (top 53), defBody (top 53), defScope (top 53), [], [], []⟩
def d__law_box : Dn := ⟨fun K => He.ga K "_law_box", "_law_box", "_law_box", defArgs (top 54), defBody (top 54), defScope (top 54), [], [], []⟩
def d__law_take : Dn := ⟨fun K => He.ga K "_law_take", "_law_take", "_law_take", defArgs (top 55), defBody (top 55), defScope (top 55), [], [], []⟩
def d__law_names : Dn := ⟨fun K => He.ga K "_law_names", "_law_names", "_law_names", defArgs (top 56), defBody (top 56), defScope (top 56), [], [], []⟩
def d__law_unsure : Dn := ⟨fun K => He.ga K "_law_unsure", "_law_unsure", "_law_unsure", defArgs (top 57), defBody (top 57), defScope (top 57), [], [], []⟩
def d__law_pair_met : Dn := ⟨fun K => He.ga K "_law_pair_met", "_law_pair_met", "_law_pair_met", defArgs (top 58), defBody (top 58), defScope (top 58), [], [], []⟩
def d__law_meetings : Dn := ⟨fun K => He.ga K "_law_meetings", "_law_meetings", "_law_meetings", defArgs (top 59), defBody (top 59), defScope (top 59), [], [], []⟩
def d__law_changes : Dn := ⟨fun K => He.ga K "_law_changes", "_law_changes", "_law_changes", defArgs (top 60), defBody (top 60), defScope (top 60), [], [], []⟩
def d__law_claim_row : Dn := ⟨fun K => He.ga K "_law_claim_row", "_law_claim_row", "_law_claim_row", defArgs (top 61), defBody (top 61), defScope (top 61), [], [], []⟩
def d__law_facts : Dn := ⟨fun K => He.ga K "_law_facts", "_law_facts", "_law_facts", defArgs (top 62), defBody (top 62), defScope (top 62), [], [], []⟩
def d__law_made : Dn := ⟨fun K => He.ga K "_law_made", "_law_made", "_law_made", defArgs (top 63), defBody (top 63), defScope (top 63), [], [], []⟩
def d__law_world : Dn := ⟨fun K => He.ga K "_law_world", "_law_world", "_law_world", defArgs (top 64), defBody (top 64), defScope (top 64), [], [], []⟩
def d__law_text : Dn := ⟨fun K => He.ga K "_law_text", "_law_text", "_law_text", defArgs (top 65), defBody (top 65), defScope (top 65), [], [], []⟩
def d__law_same : Dn := ⟨fun K => He.ga K "_law_same", "_law_same", "_law_same", defArgs (top 66), defBody (top 66), defScope (top 66), [], [], []⟩
def d__law_limits : Dn := ⟨fun K => He.ga K "_law_limits", "_law_limits", "_law_limits", defArgs (top 67), defBody (top 67), defScope (top 67), [], [], []⟩
def d_Knew_init : Dn := ⟨fun K => mAd K "Knew" "__init__", "__init__", "Knew.__init__", defArgs (inClass (top 26) 0), defBody (inClass (top 26) 0), defScope (inClass (top 26) 0), ["__class__"], [.non], []⟩
def d_Told_init : Dn := ⟨fun K => mAd K "Told" "__init__", "__init__", "Told.__init__", defArgs (inClass (top 27) 0), defBody (inClass (top 27) 0), defScope (inClass (top 27) 0), ["__class__"], [.non, .non, .int 1, .non], []⟩
def d_Began_init : Dn := ⟨fun K => mAd K "Began" "__init__", "__init__", "Began.__init__", defArgs (inClass (top 28) 0), defBody (inClass (top 28) 0), defScope (inClass (top 28) 0), ["__class__"], [.non], []⟩
def d_Held_init : Dn := ⟨fun K => mAd K "Held" "__init__", "__init__", "Held.__init__", defArgs (inClass (top 29) 0), defBody (inClass (top 29) 0), defScope (inClass (top 29) 0), ["__class__"], [], []⟩
def d_Turned_init : Dn := ⟨fun K => mAd K "Turned" "__init__", "__init__", "Turned.__init__", defArgs (inClass (top 30) 0), defBody (inClass (top 30) 0), defScope (inClass (top 30) 0), ["__class__"], [.non, .non], []⟩
def d__law_claim : Dn := ⟨fun K => He.ga K "_law_claim", "_law_claim", "_law_claim", defArgs (top 68), defBody (top 68), defScope (top 68), [], [], []⟩
def d__law_clause : Dn := ⟨fun K => He.ga K "_law_clause", "_law_clause", "_law_clause", defArgs (top 69), defBody (top 69), defScope (top 69), [], [], []⟩
def d__law_build : Dn := ⟨fun K => He.ga K "_law_build", "_law_build", "_law_build", defArgs (top 70), defBody (top 70), defScope (top 70), [], [], []⟩
def d__law_lines : Dn := ⟨fun K => He.ga K "_law_lines", "_law_lines", "_law_lines", defArgs (top 71), defBody (top 71), defScope (top 71), [], [], []⟩
def d__law_fact_shows : Dn := ⟨fun K => He.ga K "_law_fact_shows", "_law_fact_shows", "_law_fact_shows", defArgs (top 72), defBody (top 72), defScope (top 72), [], [], []⟩
def d__law_within : Dn := ⟨fun K => He.ga K "_law_within", "_law_within", "_law_within", defArgs (top 73), defBody (top 73), defScope (top 73), [], [], []⟩
def d__law_shows : Dn := ⟨fun K => He.ga K "_law_shows", "_law_shows", "_law_shows", defArgs (top 74), defBody (top 74), defScope (top 74), [], [], []⟩
def d__law_nothing : Dn := ⟨fun K => He.ga K "_law_nothing", "_law_nothing", "_law_nothing", defArgs (top 75), defBody (top 75), defScope (top 75), [], [], []⟩
def d_law : Dn := ⟨fun K => He.ga K "law", "law", "law", defArgs (top 76), defBody (top 76), defScope (top 76), [], [], []⟩
def d_Book_undo : Dn := ⟨fun K => mAd K "Book" "undo", "undo", "Book.undo", defArgs (inClass (top 51) 28), defBody (inClass (top 51) 28), defScope (inClass (top 51) 28), [], [], []⟩
def dns : List Dn := [d_is_name, d_check_names, d_number_of, d_claim_text, d_Claim_init, d_Claim_invert, d_Clause_init, d_Claim_or, d_Claim_eq, d_Claim_str, d_Clause_claims, d_Clause_or, d_Clause_len, d_Clause_str, d_joined, d_read_word, d_parse_claim, d_parse_clause, d_read_names, d_read_last, d_read_limit, d_read_line, d_limit_line, d_check_known, d_Book_people, d_check_told, d_Book_meetings, d_Book_versions, d_check_claim, d_check_claims, d_names_refused, d_Book_init, d_Book__keep, d_Book_meet, d_Book_may_turn, d_Book_change, d_Book_fact, d_Book__do, d_Book_read, d_Book_begin_limit, d_Book_turns, d_Book_facts, d_Book_limits, d_Book_len, d_Book_contains, d_Book_text, d__law_bool, d__law_box, d__law_take, d__law_names, d__law_unsure, d__law_pair_met, d__law_meetings, d__law_changes, d__law_claim_row, d__law_facts, d__law_made, d__law_world, d__law_text, d__law_same, d__law_limits, d_Knew_init, d_Told_init, d_Began_init, d_Held_init, d_Turned_init, d__law_claim, d__law_clause, d__law_build, d__law_lines, d__law_fact_shows, d__law_within, d__law_shows, d__law_nothing, d_law, d_Book_undo]
def chkL : List (Fr0 → Bool) := [
  fun K => (He.Fa.free "len").ok K,
  fun K => (He.Fa.int "MOST_SIGNS" 8).ok K,
  fun K => (He.Fa.glo "RESERVED").ok K,
  fun K => bTup K (He.ga K "RESERVED") ["any", "end", "none", "not", "or"],
  fun K => (He.Fa.str "LETTERS" "abcdefghijklmnopqrstuvwxyz").ok K,
  fun K => (He.Fa.str "DIGITS" "0123456789").ok K,
  fun K => (He.Fa.glo "is_name").ok K,
  fun K => (He.Fa.keep "is_name").ok K,
  fun K => (He.Fa.int "MOST_DIGITS" 4).ok K,
  fun K => (He.Fa.free "int").ok K,
  fun K => (He.Fa.free "enumerate").ok K,
  fun K => (He.Fa.free "str").ok K,
  fun K => cl6.all fun x => (He.Fa.cls x).ok K,
  fun K => cl6.all fun x => (He.Fa.noat x "words").ok K,
  fun K => cl6.all fun x => (He.Fa.noat x "positive").ok K,
  bMk "Claim",
  fun K => (He.Fa.glo "Claim").ok K,
  fun K => (He.Fa.free "isinstance").ok K,
  bMk "Clause",
  fun K => (He.Fa.glo "Clause").ok K,
  fun K => (He.Fa.glo "claim_text").ok K,
  fun K => (He.Fa.keep "claim_text").ok K,
  fun K => (He.Fa.free "list").ok K,
  fun K => (He.Fa.cls "Clause").ok K,
  fun K => (He.Fa.noat "Clause" "_claims").ok K,
  fun K => cl6.all (bOwn "Claim" "__str__" K),
  bMeth "Clause" "claims",
  fun K => (He.Fa.glo "number_of").ok K,
  fun K => (He.Fa.keep "number_of").ok K,
  fun K => (He.Fa.glo "FORMS").ok K,
  fun K => (He.Fa.free "zip").ok K,
  fun K => (He.Fa.glo "read_word").ok K,
  fun K => (He.Fa.keep "read_word").ok K,
  fun K => (He.Fa.free "tuple").ok K,
  fun K => (He.Fa.glo "parse_claim").ok K,
  fun K => (He.Fa.keep "parse_claim").ok K,
  fun K => (He.Fa.glo "KINDS").ok K,
  fun K => bTup K (He.ga K "KINDS") ["begins", "held", "turns", "tellers"],
  fun K => (He.Fa.glo "parse_clause").ok K,
  fun K => (He.Fa.keep "parse_clause").ok K,
  fun K => (He.Fa.glo "read_limit").ok K,
  fun K => (He.Fa.keep "read_limit").ok K,
  fun K => (He.Fa.cls "Book").ok K,
  bMeth "Book" "people",
  fun K => (He.Fa.glo "check_known").ok K,
  fun K => (He.Fa.keep "check_known").ok K,
  fun K => (He.Fa.noat "Book" "last_day").ok K,
  fun K => (He.Fa.glo "check_told").ok K,
  fun K => (He.Fa.keep "check_told").ok K,
  bMeth "Book" "meetings",
  bMeth "Book" "versions",
  fun K => (He.Fa.glo "check_claim").ok K,
  fun K => (He.Fa.keep "check_claim").ok K,
  fun K => (He.Fa.glo "check_names").ok K,
  fun K => (He.Fa.keep "check_names").ok K,
  fun K => (He.Fa.glo "Book").ok K,
  bRead,
  bCV "MOST_PEOPLE" 8,
  bCV "MOST_VERSIONS" 3,
  bCV "LAST_DAY" 30,
  fun K => (He.Fa.noat "Book" "_people").ok K,
  fun K => (He.Fa.noat "Book" "_versions").ok K,
  fun K => (He.Fa.noat "Book" "_meetings").ok K,
  fun K => (He.Fa.noat "Book" "_turns").ok K,
  fun K => (He.Fa.noat "Book" "_facts").ok K,
  fun K => (He.Fa.noat "Book" "_limits").ok K,
  fun K => (He.Fa.noat "Book" "_past").ok K,
  fun K => (He.Fa.glo "read_names").ok K,
  fun K => (He.Fa.keep "read_names").ok K,
  fun K => (He.Fa.glo "read_last").ok K,
  fun K => (He.Fa.keep "read_last").ok K,
  fun K => (He.Fa.glo "names_refused").ok K,
  fun K => (He.Fa.keep "names_refused").ok K,
  bMk "Book",
  bMeth "Book" "_do",
  fun K => (He.Fa.glo "read_line").ok K,
  fun K => (He.Fa.keep "read_line").ok K,
  fun K => cl6.all (bOwn "Claim" "__eq__" K),
  fun K => cl6.all fun x => cl6.all (bEq K x),
  bCV "MOST_MEETINGS" 24,
  bCV "MOST_UNSURE" 6,
  bMeth "Book" "_keep",
  bCV "MOST_TURNS" 6,
  fun K => (He.Fa.glo "joined").ok K,
  fun K => (He.Fa.keep "joined").ok K,
  bCV "MOST_CLAIMS" 3,
  fun K => (He.Fa.glo "check_claims").ok K,
  fun K => (He.Fa.keep "check_claims").ok K,
  bCV "MOST_FACTS" 16,
  fun K => bOwn "Clause" "__len__" K "Clause",
  bCV "MOST_WIDE" 4,
  fun K => (He.Fa.int "MOST_LIMIT" 24).ok K,
  bKi,
  fun K => bOwn "Clause" "__str__" K "Clause",
  fun K => (He.Fa.glo "limit_line").ok K,
  fun K => (He.Fa.keep "limit_line").ok K,
  bMeth "Book" "meet",
  bMeth "Book" "may_turn",
  bMeth "Book" "change",
  bMeth "Book" "fact",
  fun K => (He.Fa.free "bool").ok K,
  fun K => (He.Fa.free "abs").ok K,
  fun K => (He.Fa.glo "_law_take").ok K,
  fun K => (He.Fa.keep "_law_take").ok K,
  fun K => (He.Fa.free "range").ok K,
  fun K => (He.Fa.glo "_law_pair_met").ok K,
  fun K => (He.Fa.keep "_law_pair_met").ok K,
  fun K => (He.Fa.glo "_law_unsure").ok K,
  fun K => (He.Fa.keep "_law_unsure").ok K,
  fun K => (He.Fa.glo "_law_claim_row").ok K,
  fun K => (He.Fa.keep "_law_claim_row").ok K,
  fun K => (He.Fa.glo "_law_names").ok K,
  fun K => (He.Fa.keep "_law_names").ok K,
  fun K => (He.Fa.glo "_law_meetings").ok K,
  fun K => (He.Fa.keep "_law_meetings").ok K,
  fun K => (He.Fa.glo "_law_changes").ok K,
  fun K => (He.Fa.keep "_law_changes").ok K,
  fun K => (He.Fa.glo "_law_facts").ok K,
  fun K => (He.Fa.keep "_law_facts").ok K,
  fun K => (He.Fa.glo "_law_made").ok K,
  fun K => (He.Fa.keep "_law_made").ok K,
  fun K => (He.Fa.glo "_law_bool").ok K,
  fun K => (He.Fa.keep "_law_bool").ok K,
  fun K => (He.Fa.free "repr").ok K,
  bMk "Knew",
  fun K => (He.Fa.glo "Knew").ok K,
  bMk "Told",
  fun K => (He.Fa.glo "Told").ok K,
  bMk "Began",
  fun K => (He.Fa.glo "Began").ok K,
  bMk "Held",
  fun K => (He.Fa.glo "Held").ok K,
  bMk "Turned",
  fun K => (He.Fa.glo "Turned").ok K,
  fun K => cl6.all (bOwn "Claim" "__invert__" K),
  fun K => (He.Fa.glo "_law_claim").ok K,
  fun K => (He.Fa.keep "_law_claim").ok K,
  fun K => cl6.all (bOrC "Claim" K),
  fun K => cl6.all fun x => cl6.all (bOrP K x),
  fun K => cl6.all (bOrP K "Clause"),
  fun K => bOrC "Clause" K "Clause",
  fun K => (He.Fa.glo "_law_clause").ok K,
  fun K => (He.Fa.keep "_law_clause").ok K,
  fun K => (He.Fa.glo "_law_text").ok K,
  fun K => (He.Fa.keep "_law_text").ok K,
  fun K => (He.Fa.glo "_law_same").ok K,
  fun K => (He.Fa.keep "_law_same").ok K,
  fun K => bOwn "Book" "__contains__" K "Book",
  bMeth "Book" "turns",
  bMeth "Book" "limits",
  bProp,
  fun K => bOwn "Book" "__len__" K "Book",
  bMeth "Book" "facts",
  bMeth "Book" "text",
  fun K => (He.Fa.glo "_law_lines").ok K,
  fun K => (He.Fa.keep "_law_lines").ok K,
  fun K => (He.Fa.glo "_law_within").ok K,
  fun K => (He.Fa.keep "_law_within").ok K,
  fun K => (He.Fa.glo "_law_fact_shows").ok K,
  fun K => (He.Fa.keep "_law_fact_shows").ok K,
  bMeth "Book" "undo",
  fun K => (He.Fa.glo "NothingToUndo").ok K,
  fun K => (He.Fa.exm "NothingToUndo" "NothingToUndo" true).ok K,
  fun K => (He.Fa.glo "_law_box").ok K,
  fun K => (He.Fa.keep "_law_box").ok K,
  fun K => (He.Fa.glo "_law_world").ok K,
  fun K => (He.Fa.keep "_law_world").ok K,
  fun K => (He.Fa.glo "_law_limits").ok K,
  fun K => (He.Fa.keep "_law_limits").ok K,
  bCm,
  fun K => (He.Fa.glo "_law_shows").ok K,
  fun K => (He.Fa.keep "_law_shows").ok K,
  fun K => (He.Fa.glo "_law_nothing").ok K,
  fun K => (He.Fa.keep "_law_nothing").ok K,
  fun K => (He.Fa.glo "_law_build").ok K,
  fun K => (He.Fa.keep "_law_build").ok K,
  fun K => (He.Fa.free "super").ok K,
  bEnt "knew" ["name", "number", "any"],
  bEnt "told" ["any", "any", "number", "end"],
  bEnt "began" ["name", "any"],
  bEnt "held" ["number"],
  bEnt "turned" ["name", "any", "any"],
  fun K => cl6.all (bIns K),
  fun K => cl6.all fun x => bKit K (.ref (He.ga K x)) (.ref (He.ga K "Claim")) true,
  fun K => cl6.all fun x => bKit K (.ref (He.ga K x)) (.ref (He.ga K "Clause")) false,
  fun K => bIns K "Clause",
  fun K => bKit K (.ref (He.ga K "Clause")) (.ref (He.ga K "Clause")) true,
  fun K => bIns K "Book",
  fun K => bKit K (.ref (He.ga K "Book")) (.ref (He.ga K "Book")) true,
  fun K => bKit K (.type "bool") (.type "bool") true,
  fun K => bKit K (.type "list") (.type "list") true,
  fun K => (He.Fa.exc "NothingToUndo").ok K,
  bSup "Knew" "Knew.__init__",
  bSup "Told" "Told.__init__",
  bSup "Began" "Began.__init__",
  bSup "Held" "Held.__init__",
  bSup "Turned" "Turned.__init__",
  fun K => (He.Fa.glo "law").ok K]
def chk (K : Fr0) : Bool := chkL.all fun f => f K
theorem ck {K : Fr0} {f : Fr0 → Bool} (c : chk K = true) (i : Nat) (h : chkL[i]? = some f) : f K = true := List.all_eq_true.mp c f (List.mem_of_getElem? h)
def okL (K : Fr0) : List Dn → Bool
  | [] => true
  | d :: r => d.ok K && okL K r
def obsL (K : Fr0) : List Dn → List FnY
  | [] => []
  | d :: r => fnY K (d.ad K) :: obsL K r
def valL : List Dn → List FnY
  | [] => []
  | d :: r => d.val :: valL r
theorem okL_at {K : Fr0} : ∀ {l : List Dn} {i : Nat} {d : Dn}, okL K l = true → l[i]? = some d → d.ok K = true
  | [], i, d, _, e => by simp at e
  | x :: r, 0, d, h, e => by
    simp at e; subst e
    exact (He.ba h).1
  | x :: r, i + 1, d, h, e => okL_at (He.ba h).2 (by simpa using e)
theorem obsL_at {K : Fr0} : ∀ {l : List Dn} {i : Nat} {d : Dn}, obsL K l = valL l → l[i]? = some d → fnY K (d.ad K) = d.val
  | [], i, d, _, e => by simp at e
  | x :: r, 0, d, h, e => by
    simp at e; subst e
    exact (List.cons.inj h).1
  | x :: r, i + 1, d, h, e => obsL_at (List.cons.inj h).2 (by simpa using e)
def keysF : List Str := ["knew", "told", "began", "held", "turned"]
abbrev AlK : Type := Bool × Bool × List FnY × Option (List (Option (Str × Int)))
def obsK (K : Fr0) : AlK := (chk K, okL K dns, obsL K dns, He.dicW K (He.ga K "FORMS"))
def valK (w : World) : AlK := (true, true, valL dns, some (He.keysIn w.params keysF))
structure SaysK (w : World) (K : Fr0) : Prop where
  ck : chk K = true
  ok : okL K dns = true
  obs : obsL K dns = valL dns
  dic : ∃ es n, KDict K w (He.ga K "FORMS") es n
theorem says_of {w : World} {K : Fr0} (e : obsK K = valK w) : SaysK w K := by
  have h1 := congrArg (fun z : AlK => z.1) e
  have h2 := congrArg (fun z : AlK => z.2.1) e
  have h3 := congrArg (fun z : AlK => z.2.2.1) e
  have h4 := congrArg (fun z : AlK => z.2.2.2) e
  exact ⟨h1, h2, h3, He.dicW_ok h4⟩
theorem SaysK.def_ {w : World} {K : Fr0} (s : SaysK w K) (i : Nat) {d : Dn} (h : dns[i]? = some d) (hc : d.cl = []) : ∃ fd, FunD K d.name d.qual d.params d.body d.scope (d.dvs K) (d.kws K) (d.ad K) fd := Dn.funD hc (obsL_at s.obs h) (okL_at s.ok h)
end HB
set_option Elab.async false
set_option linter.all false
set_option maxRecDepth 100000
set_option maxHeartbeats 0
/-! the head: the top run in the kernel, looked at by the Hook -/
namespace HB
open PySem PySem.Spec PyProof.Rows L2
def down : Nat → List Addr
  | 0 => [0]
  | n + 1 => (n + 1) :: down n
def asA : List Addr := mainGlobals :: down 1000
def hk : PySem.W.Hook where
  α := AlK
  obs := fun s => obsK (He.frG s.heap.get? asA)
  val := fun w => valK w
  says := fun w h => ∃ K : PySem.W.Frag, K.In h ∧ SaysK w K
  of := fun _ _ e => ⟨_, He.frG_in, says_of e⟩
  keeps := fun _ _ _ ⟨K, hK, c⟩ k => ⟨K, PySem.W.Frag.In.keeps hK k, c⟩
abbrev RR : PySem.W.OpenRow := PySem.W.OpenLaw.row PySem.Challenge.rw_heardby_k19_whole_books_read_back
def ob (s : PySem.W.SharedT) : AlK := obsK (He.frG (HandSHeadRun.getT s) asA)
theorem ob_eq (s : PySem.W.SharedT) : ob s = hk.obs s.abs := by
  have e : HandSHeadRun.getT s = s.abs.heap.get? := funext (HandSHeadRun.getT_eq s)
  show obsK (He.frG (HandSHeadRun.getT s) asA) = obsK (He.frG s.abs.heap.get? asA)
  rw [e]
def names1 : List PySem.Str := ["_wall", "HeardbyError", "InvalidName", "UnknownName", "OutOfRange", "Duplicate", "TooMany", "NotUnsure", "InvalidText", "BadLine", "WrongKind", "NothingToUndo", "LETTERS", "DIGITS", "RESERVED", "MOST_SIGNS", "MOST_DIGITS", "is_name", "check_names", "number_of", "FORMS", "claim_text", "Claim", "Knew", "Told", "Began", "Held", "Turned", "Clause", "joined"]
def names2 : List PySem.Str := ["read_word", "parse_claim", "parse_clause", "KINDS", "read_names", "read_last", "read_limit", "read_line", "limit_line", "check_known", "check_told", "check_claim", "check_claims", "MOST_LIMIT", "names_refused", "Book", "_law_bool", "_law_box", "_law_take", "_law_names", "_law_unsure", "_law_pair_met", "_law_meetings", "_law_changes", "_law_claim_row", "_law_facts", "_law_made", "_law_world"]
def names3 : List PySem.Str := ["_law_text", "_law_same", "_law_limits", "_law_claim", "_law_clause", "_law_build", "_law_lines", "_law_fact_shows", "_law_within", "_law_shows", "_law_nothing"]
def names : List PySem.Str := names1 ++ names2 ++ names3
noncomputable abbrev EF (W : World) (os : OsState) : Option PySem.W.SharedT := HandSHeadRun.endF (HandSHeadRun.stepQ (HandSHeadRun.denQ HandSHeadRun.tabQ) RR.prog W) 9000 RR.prog W os
abbrev QV : Program := PySem.W.view RR.prog [76]
/-- the three looks at the state behind the top -/
def LookA (W : World) : Prop := ∀ os : OsState, (EF W os).map (fun s => (HandSHeadRun.looksF RR.prog (PySem.W.boot_heap W.params) s.abs, HandSHeadRun.seenQ QV names (importedModules RR.prog.main.body) (fun s => PySem.W.xlAt QV [] s && PySem.W.recOk RR.toRowW.records s) s.abs, obsL (He.frG (HandSHeadRun.getT s) asA) dns, He.dicW (He.frG (HandSHeadRun.getT s) asA) (He.ga (He.frG (HandSHeadRun.getT s) asA) "FORMS"))) = some (true, PySem.W.openGood QV names, valL dns, some (He.keysIn W.params keysF))
def LookB (W : World) : Prop := ∀ os : OsState, (EF W os).map (fun s => okL (He.frG (HandSHeadRun.getT s) asA) dns) = some true
def LookC (W : World) : Prop := ∀ os : OsState, (EF W os).map (fun s => chk (He.frG (HandSHeadRun.getT s) asA)) = some true
theorem look_all {W : World} (hA : LookA W) (hB : LookB W) (hC : LookC W) : HandSHeadRun.RunEq RR QV hk ob 9000 names W := by
  intro os
  obtain ⟨s, hs, ha⟩ := Option.map_eq_some_iff.mp (hA os)
  have hb := hB os
  have hc := hC os
  rw [hs] at hb hc
  have hb : okL (He.frG (HandSHeadRun.getT s) asA) dns = true := Option.some.inj hb
  have hc : chk (He.frG (HandSHeadRun.getT s) asA) = true := Option.some.inj hc
  obtain ⟨a1, a2, a3, a4⟩ : _ ∧ _ ∧ _ ∧ _ := by simpa only [Prod.mk.injEq] using ha
  have hs : HandSHeadRun.endF (HandSHeadRun.stepQ (HandSHeadRun.denQ HandSHeadRun.tabQ) RR.prog W) 9000 RR.prog W os = some s := hs
  rw [hs]
  show some (HandSHeadRun.looksF RR.prog (PySem.W.boot_heap W.params) s.abs, HandSHeadRun.seenQ QV names (importedModules RR.prog.main.body) (fun s => PySem.W.xlAt QV [] s && PySem.W.recOk RR.toRowW.records s) s.abs, chk (He.frG (HandSHeadRun.getT s) asA), okL (He.frG (HandSHeadRun.getT s) asA) dns, obsL (He.frG (HandSHeadRun.getT s) asA) dns, He.dicW (He.frG (HandSHeadRun.getT s) asA) (He.ga (He.frG (HandSHeadRun.getT s) asA) "FORMS")) = some (true, PySem.W.openGood QV names, true, true, valL dns, some (He.keysIn W.params keysF))
  rw [a1, a2, a3, a4, hb, hc]
theorem lookA0 (w : World) : LookA (w.withFollow "special-get-raises" false) := by
  intro os
  kernel_rfl
theorem lookB0 (w : World) : LookB (w.withFollow "special-get-raises" false) := by
  intro os
  kernel_rfl
theorem lookC0 (w : World) : LookC (w.withFollow "special-get-raises" false) := by
  intro os
  kernel_rfl
theorem lookA1 (w : World) : LookA (w.withFollow "special-get-raises" true) := by
  intro os
  kernel_rfl
theorem lookB1 (w : World) : LookB (w.withFollow "special-get-raises" true) := by
  intro os
  kernel_rfl
theorem lookC1 (w : World) : LookC (w.withFollow "special-get-raises" true) := by
  intro os
  kernel_rfl
theorem runW (w : World) : HandSHeadRun.RunEq RR QV hk ob 9000 names w := PySem.W.byRow2 "special-get-raises" (P := fun w => HandSHeadRun.RunEq RR QV hk ob 9000 names w) (fun w => look_all (lookA0 w) (lookB0 w) (lookC0 w)) (fun w => look_all (lookA1 w) (lookB1 w) (lookC1 w)) w
end HB
set_option Elab.async false
set_option linter.all false
set_option maxRecDepth 100000
set_option maxHeartbeats 4000000
/-! deep data over the heap; the memory of what may change; readings lifted to plain data -/
namespace HB
open PySem L2
inductive D where
  | non | bl (b : Bool) | int (i : Int) | str (x : Str) | ref (a : Addr) | ty (n : String)
  | lst (ds : List D) | tup (ds : List D) | obj (C : Addr) (ns : List Str) (ds : List D) | scr (ns : List Int)
  deriving Inhabited
inductive MO where
  | lst (ds : List D) | dic (kvs : List (Str × D)) | ins (C : Addr) (fs : List (Str × D))
abbrev Mem := Addr → Option MO
def mset (m : Mem) (a : Addr) (o : MO) : Mem := fun b => if b = a then some o else m b
def mdel (m : Mem) (a : Addr) : Mem := fun b => if b = a then none else m b
theorem mset_same {m : Mem} {a : Addr} {o : MO} : mset m a o a = some o := by unfold mset; rw [if_pos rfl]
theorem mset_ne {m : Mem} {a b : Addr} {o : MO} (h : b ≠ a) : mset m a o b = m b := by unfold mset; rw [if_neg h]
theorem mdel_same {m : Mem} {a : Addr} : mdel m a a = none := by unfold mdel; rw [if_pos rfl]
theorem mdel_ne {m : Mem} {a b : Addr} (h : b ≠ a) : mdel m a b = m b := by unfold mdel; rw [if_neg h]
theorem mset_mset {m : Mem} {a : Addr} {o u : MO} : mset (mset m a o) a u = mset m a u := by
  funext b; unfold mset; split <;> rfl
theorem mdel_mset {m : Mem} {a : Addr} {o : MO} (h : m a = none) : mdel (mset m a o) a = m := by
  funext b; unfold mdel mset
  by_cases e : b = a
  · rw [if_pos e, e, h]
  · rw [if_neg e, if_neg e]
theorem mset_comm {m : Mem} {a b : Addr} {o u : MO} (h : a ≠ b) : mset (mset m a o) b u = mset (mset m b u) a o := by
  funext c; unfold mset
  by_cases e : c = b
  · rw [if_pos e, if_neg (by rw [e]; exact Ne.symm h), if_pos e]
  · by_cases e' : c = a
    · rw [if_neg e, if_pos e', if_pos e']
    · rw [if_neg e, if_neg e', if_neg e', if_neg e]
theorem mset_self {m : Mem} {a : Addr} {o : MO} (h : m a = some o) : mset m a o = m := by
  funext b; unfold mset
  by_cases e : b = a
  · rw [if_pos e, e, h]
  · rw [if_neg e]
theorem mem_ne {m : Mem} {a b : Addr} {o : MO} (h : m a = some o) (h' : m b = none) : a ≠ b := by
  rintro rfl; rw [h] at h'; cases h'
/-- a tuple of the written part -/
def KTup (K : PySem.W.Frag) (a : Addr) (vs : List V) : Prop :=
  ∃ (o : Obj) (its : Array Value) (n : Nat), K.lookup a = some o ∧ o.cls = .type "tuple" ∧ o.data = .seq its n ∧ its.size ≤ sizeLine ∧ Vals vs its.toList
def TupAt (K : PySem.W.Frag) (H : Hp) (m : Mem) (a : Addr) (vs : List V) : Prop := (H a = some (.tup vs) ∧ m a = none) ∨ KTup K a vs
/-- a list of the written part -/
def KLst (K : PySem.W.Frag) (a : Addr) (vs : List V) : Prop :=
  ∃ (o : Obj) (its : Array Value) (n : Nat), K.lookup a = some o ∧ o.cls = .type "list" ∧ o.dict = none ∧ o.data = .seq its n ∧ its.size ≤ sizeLine ∧ Vals vs its.toList
def ScrAt (K : PySem.W.Frag) (H : Hp) (m : Mem) (a : Addr) (vs : List V) : Prop := (∃ o, H a = some (.frz o (.lst vs)) ∧ m a = none) ∨ KLst K a vs
theorem ScrAt.sq {K : PySem.W.Frag} {H : Hp} {m : Mem} {a : Addr} {vs : List V} (h : ScrAt K H m a vs) : SqL K H a vs := by
  rcases h with ⟨o, h, _⟩ | h
  · exact .inl (.inr ⟨o, h⟩)
  · exact .inr h
theorem TupAt.sq {K : PySem.W.Frag} {H : Hp} {m : Mem} {a : Addr} {vs : List V} (h : TupAt K H m a vs) : SqT K H a vs := by
  rcases h with ⟨h, _⟩ | h
  · exact .inl (.inl h)
  · exact .inr h
mutual
def Is (K : PySem.W.Frag) (H : Hp) (m : Mem) : D → V → Prop
  | .non, v => v = .non
  | .bl b, v => v = .bl b
  | .int i, v => v = .int i
  | .str x, v => v = .str x
  | .ref a, v => v = .ref a
  | .ty n, v => v = .ty n
  | .lst ds, v => ∃ a vs, v = .ref a ∧ H a = some (.lst vs) ∧ m a = none ∧ Iss K H m ds vs
  | .tup ds, v => ∃ a vs, v = .ref a ∧ TupAt K H m a vs ∧ Iss K H m ds vs
  | .obj C ns ds, v => ∃ a dx vs, v = .ref a ∧ H a = some (.ins C dx (ns.zip vs)) ∧ m a = none ∧ ns.length = ds.length ∧ Iss K H m ds vs
  | .scr ns, v => ∃ a, v = .ref a ∧ ScrAt K H m a (ns.map V.int)
def Iss (K : PySem.W.Frag) (H : Hp) (m : Mem) : List D → List V → Prop
  | [], vs => vs = []
  | d :: ds, vs => ∃ v r, vs = v :: r ∧ Is K H m d v ∧ Iss K H m ds r
end
/-- from (H, m) to (H', m'): what was tracked and not in the memory is as it was, and is not in the memory -/
structure Step (H : Hp) (m : Mem) (H' : Hp) (m' : Mem) : Prop where
  keep : ∀ a o, H a = some o → m a = none → H' a = some o ∧ m' a = none
theorem Step.refl {H : Hp} {m : Mem} : Step H m H m := ⟨fun _ _ h h' => ⟨h, h'⟩⟩
theorem Step.trans {H H1 H2 : Hp} {m m1 m2 : Mem} (a : Step H m H1 m1) (b : Step H1 m1 H2 m2) : Step H m H2 m2 :=
  ⟨fun x o h h' => let ⟨q, q'⟩ := a.keep x o h h'; b.keep x o q q'⟩
section
variable {K : PySem.W.Frag} {H H' : Hp} {m m' : Mem}
theorem TupAt.step {a : Addr} {vs : List V} (s : Step H m H' m') (h : TupAt K H m a vs) : TupAt K H' m' a vs := by
  rcases h with ⟨h, h'⟩ | h
  · exact .inl (s.keep _ _ h h')
  · exact .inr h
theorem ScrAt.step {a : Addr} {vs : List V} (s : Step H m H' m') (h : ScrAt K H m a vs) : ScrAt K H' m' a vs := by
  rcases h with ⟨o, h, h'⟩ | h
  · obtain ⟨q, q'⟩ := s.keep _ _ h h'
    exact .inl ⟨o, q, q'⟩
  · exact .inr h
mutual
theorem Is.step (s : Step H m H' m') : ∀ (d : D) {v : V}, Is K H m d v → Is K H' m' d v
  | .non, _, h => by simpa only [Is] using h
  | .bl _, _, h => by simpa only [Is] using h
  | .int _, _, h => by simpa only [Is] using h
  | .str _, _, h => by simpa only [Is] using h
  | .ref _, _, h => by simpa only [Is] using h
  | .ty _, _, h => by simpa only [Is] using h
  | .lst ds, _, h => by
    simp only [Is] at h ⊢
    obtain ⟨a, vs, e, h1, h2, h3⟩ := h
    obtain ⟨q1, q2⟩ := s.keep _ _ h1 h2
    exact ⟨a, vs, e, q1, q2, Iss.step s ds h3⟩
  | .tup ds, _, h => by
    simp only [Is] at h ⊢
    obtain ⟨a, vs, e, h1, h3⟩ := h
    exact ⟨a, vs, e, h1.step s, Iss.step s ds h3⟩
  | .obj C ns ds, _, h => by
    simp only [Is] at h ⊢
    obtain ⟨a, dx, vs, e, h1, h2, hl, h3⟩ := h
    obtain ⟨q1, q2⟩ := s.keep _ _ h1 h2
    exact ⟨a, dx, vs, e, q1, q2, hl, Iss.step s ds h3⟩
  | .scr ns, _, h => by
    simp only [Is] at h ⊢
    obtain ⟨a, e, h1⟩ := h
    exact ⟨a, e, h1.step s⟩
theorem Iss.step (s : Step H m H' m') : ∀ (ds : List D) {vs : List V}, Iss K H m ds vs → Iss K H' m' ds vs
  | [], _, h => by simpa only [Iss] using h
  | d :: ds, _, h => by
    simp only [Iss] at h ⊢
    obtain ⟨v, r, e, h1, h2⟩ := h
    exact ⟨v, r, e, Is.step s d h1, Iss.step s ds h2⟩
end
theorem is_non {v : V} : Is K H m .non v ↔ v = .non := by simp only [Is]
theorem is_bl {b : Bool} {v : V} : Is K H m (.bl b) v ↔ v = .bl b := by simp only [Is]
theorem is_int {i : Int} {v : V} : Is K H m (.int i) v ↔ v = .int i := by simp only [Is]
theorem is_str {x : Str} {v : V} : Is K H m (.str x) v ↔ v = .str x := by simp only [Is]
theorem is_ref {a : Addr} {v : V} : Is K H m (.ref a) v ↔ v = .ref a := by simp only [Is]
theorem is_ty {n : String} {v : V} : Is K H m (.ty n) v ↔ v = .ty n := by simp only [Is]
theorem is_lst {ds : List D} {v : V} : Is K H m (.lst ds) v ↔ ∃ a vs, v = .ref a ∧ H a = some (.lst vs) ∧ m a = none ∧ Iss K H m ds vs := by simp only [Is]
theorem is_tup {ds : List D} {v : V} : Is K H m (.tup ds) v ↔ ∃ a vs, v = .ref a ∧ TupAt K H m a vs ∧ Iss K H m ds vs := by simp only [Is]
theorem is_obj {C : Addr} {ns : List Str} {ds : List D} {v : V} : Is K H m (.obj C ns ds) v ↔ ∃ a dx vs, v = .ref a ∧ H a = some (.ins C dx (ns.zip vs)) ∧ m a = none ∧ ns.length = ds.length ∧ Iss K H m ds vs := by simp only [Is]
theorem is_scr {ns : List Int} {v : V} : Is K H m (.scr ns) v ↔ ∃ a, v = .ref a ∧ ScrAt K H m a (ns.map V.int) := by simp only [Is]
theorem iss_nil {vs : List V} : Iss K H m [] vs ↔ vs = [] := by simp only [Iss]
theorem iss_cons {d : D} {ds : List D} {vs : List V} : Iss K H m (d :: ds) vs ↔ ∃ v r, vs = v :: r ∧ Is K H m d v ∧ Iss K H m ds r := by simp only [Iss]
theorem Iss.length : ∀ {ds : List D} {vs : List V}, Iss K H m ds vs → vs.length = ds.length
  | [], _, h => by rw [iss_nil] at h; rw [h]; rfl
  | d :: ds, _, h => by
    obtain ⟨v, r, rfl, _, h2⟩ := iss_cons.mp h
    rw [List.length_cons, List.length_cons, Iss.length h2]
theorem Iss.get : ∀ {ds : List D} {vs : List V} {i : Nat} {d : D}, Iss K H m ds vs → ds[i]? = some d → ∃ v, vs[i]? = some v ∧ Is K H m d v
  | [], _, _, _, _, e => by simp at e
  | d :: ds, _, 0, _, h, e => by
    obtain ⟨v, r, rfl, h1, _⟩ := iss_cons.mp h
    simp at e; subst e
    exact ⟨v, rfl, h1⟩
  | d :: ds, _, i + 1, x, h, e => by
    obtain ⟨v, r, rfl, _, h2⟩ := iss_cons.mp h
    obtain ⟨w, h3, h4⟩ := Iss.get (i := i) h2 (by simpa using e)
    exact ⟨w, by simpa using h3, h4⟩
theorem Iss.getV : ∀ {ds : List D} {vs : List V} {i : Nat} {v : V}, Iss K H m ds vs → vs[i]? = some v → ∃ d, ds[i]? = some d ∧ Is K H m d v := fun {ds vs i v} h e => by
  have hl := h.length
  have hi : i < vs.length := (List.getElem?_eq_some_iff.mp e).1
  have hi' : i < ds.length := by omega
  obtain ⟨w, h1, h2⟩ := h.get (i := i) (d := ds[i]) (by simp [hi'])
  rw [e] at h1; cases h1
  exact ⟨ds[i], by simp [hi'], h2⟩
theorem Iss.append : ∀ {ds es : List D} {vs ws : List V}, Iss K H m ds vs → Iss K H m es ws → Iss K H m (ds ++ es) (vs ++ ws)
  | [], _, _, _, h, h' => by rw [iss_nil] at h; rw [h]; exact h'
  | d :: ds, _, _, _, h, h' => by
    obtain ⟨v, r, rfl, h1, h2⟩ := iss_cons.mp h
    exact iss_cons.mpr ⟨v, r ++ _, rfl, h1, Iss.append h2 h'⟩
theorem Iss.one {d : D} {v : V} (h : Is K H m d v) : Iss K H m [d] [v] := iss_cons.mpr ⟨v, [], rfl, h, iss_nil.mpr rfl⟩
theorem Iss.set : ∀ {ds : List D} {vs : List V} {d : D} {v : V} (i : Nat), Iss K H m ds vs → Is K H m d v → Iss K H m (ds.set i d) (vs.set i v)
  | [], _, _, _, i, h, _ => by rw [iss_nil] at h; rw [h]; exact iss_nil.mpr rfl
  | d :: ds, _, _, _, 0, h, h' => by
    obtain ⟨v, r, rfl, h1, h2⟩ := iss_cons.mp h
    exact iss_cons.mpr ⟨_, r, rfl, h', h2⟩
  | d :: ds, _, _, _, i + 1, h, h' => by
    obtain ⟨v, r, rfl, h1, h2⟩ := iss_cons.mp h
    exact iss_cons.mpr ⟨v, _, rfl, h1, Iss.set i h2 h'⟩
theorem Iss.drop : ∀ {ds : List D} {vs : List V} (n : Nat), Iss K H m ds vs → Iss K H m (ds.drop n) (vs.drop n)
  | _, _, 0, h => h
  | [], _, n + 1, h => by rw [iss_nil] at h; rw [h]; exact iss_nil.mpr rfl
  | d :: ds, _, n + 1, h => by
    obtain ⟨v, r, rfl, _, h2⟩ := iss_cons.mp h
    exact Iss.drop n h2
theorem Iss.take : ∀ {ds : List D} {vs : List V} (n : Nat), Iss K H m ds vs → Iss K H m (ds.take n) (vs.take n)
  | _, _, 0, _ => iss_nil.mpr rfl
  | [], _, n + 1, h => by rw [iss_nil] at h; rw [h]; exact iss_nil.mpr rfl
  | d :: ds, _, n + 1, h => by
    obtain ⟨v, r, rfl, h1, h2⟩ := iss_cons.mp h
    exact iss_cons.mpr ⟨v, _, rfl, h1, Iss.take n h2⟩
theorem Iss.strs : ∀ {xs : List Str} {vs : List V}, Iss K H m (xs.map D.str) vs → vs = xs.map V.str
  | [], _, h => iss_nil.mp h
  | x :: xs, _, h => by
    obtain ⟨v, r, rfl, h1, h2⟩ := iss_cons.mp h
    rw [is_str.mp h1, Iss.strs h2]; rfl
theorem iss_strs : ∀ (xs : List Str), Iss K H m (xs.map D.str) (xs.map V.str)
  | [] => iss_nil.mpr rfl
  | x :: xs => iss_cons.mpr ⟨.str x, _, rfl, is_str.mpr rfl, iss_strs xs⟩
/-! ### fields -/
abbrev FsR (K : PySem.W.Frag) (H : Hp) (m : Mem) : List (Str × D) → List (Str × V) → Prop := Paired fun p q => p.1 = q.1 ∧ Is K H m p.2 q.2
abbrev KsR (K : PySem.W.Frag) (H : Hp) (m : Mem) : List (Str × D) → List (Key × V) → Prop := Paired fun p q => q.1 = Sum.inr p.1 ∧ Is K H m p.2 q.2
theorem paired_mono {A B : Type} {F G : A → B → Prop} : ∀ {xs : List A} {ys : List B}, Paired F xs ys → (∀ a b, F a b → G a b) → Paired G xs ys
  | _, _, .nil, _ => .nil
  | _, _, .cons r t, f => .cons (f _ _ r) (paired_mono t f)
theorem FsR.step (s : Step H m H' m') {fs : List (Str × D)} {gs : List (Str × V)} (h : FsR K H m fs gs) : FsR K H' m' fs gs := paired_mono h fun _ _ ⟨a, b⟩ => ⟨a, Is.step s _ b⟩
theorem KsR.step (s : Step H m H' m') {fs : List (Str × D)} {gs : List (Key × V)} (h : KsR K H m fs gs) : KsR K H' m' fs gs := paired_mono h fun _ _ ⟨a, b⟩ => ⟨a, Is.step s _ b⟩
theorem FsR.look : ∀ {fs : List (Str × D)} {gs : List (Str × V)} {f : Str} {d : D}, FsR K H m fs gs → fs.lookup f = some d → ∃ v, gs.lookup f = some v ∧ Is K H m d v
  | _, _, _, _, .nil, e => by simp at e
  | (n, d) :: fs, (n', v) :: gs, f, x, .cons ⟨e1, r⟩ t, e => by
    have e1' : n = n' := e1
    subst e1'
    rw [List.lookup_cons] at e ⊢
    cases q : (f == n) with
    | true => rw [q] at e; cases e; exact ⟨v, rfl, r⟩
    | false => rw [q] at e; exact FsR.look t e
theorem FsR.no : ∀ {fs : List (Str × D)} {gs : List (Str × V)} {f : Str}, FsR K H m fs gs → fs.lookup f = none → gs.lookup f = none
  | _, _, _, .nil, e => by rfl
  | (n, d) :: fs, (n', v) :: gs, f, .cons ⟨e1, r⟩ t, e => by
    have e1' : n = n' := e1
    subst e1'
    rw [List.lookup_cons] at e ⊢
    cases q : (f == n) with
    | true => rw [q] at e; cases e
    | false => rw [q] at e; exact FsR.no t e
/-- a field stored -/
def putD (f : Str) (d : D) : List (Str × D) → List (Str × D)
  | [] => [(f, d)]
  | (n, x) :: r => if n = f then (n, d) :: r else (n, x) :: putD f d r
theorem FsR.of_zip : ∀ {ns : List Str} {ds : List D} {vs : List V}, ns.length = ds.length → Iss K H m ds vs → FsR K H m (ns.zip ds) (ns.zip vs)
  | [], [], _, _, h => by rw [iss_nil] at h; rw [h]; exact .nil
  | n :: ns, d :: ds, _, hl, h => by
    obtain ⟨v, r, rfl, h1, h2⟩ := iss_cons.mp h
    exact .cons ⟨rfl, h1⟩ (FsR.of_zip (by simpa using hl) h2)
theorem FsR.to_iss : ∀ {fs : List (Str × D)} {gs : List (Str × V)}, FsR K H m fs gs → ∃ vs, gs = (fs.map (·.1)).zip vs ∧ Iss K H m (fs.map (·.2)) vs
  | _, _, .nil => ⟨[], rfl, iss_nil.mpr rfl⟩
  | (n, d) :: fs, (n', v) :: gs, .cons ⟨e1, r⟩ t => by
    have e1' : n = n' := e1
    subst e1'
    obtain ⟨vs, h1, h2⟩ := FsR.to_iss t
    exact ⟨v :: vs, by rw [h1]; rfl, iss_cons.mpr ⟨v, vs, rfl, r, h2⟩⟩
/-! ### the memory -/
def MoAt (K : PySem.W.Frag) (H : Hp) (m : Mem) (a : Addr) : MO → Prop
  | .lst ds => ∃ vs, H a = some (.lst vs) ∧ Iss K H m ds vs
  | .dic kvs => ∃ gs, H a = some (.dK gs) ∧ KsR K H m kvs gs
  | .ins C fs => ∃ dx gs, H a = some (.ins C dx gs) ∧ FsR K H m fs gs
def MOk (K : PySem.W.Frag) (H : Hp) (m : Mem) : Prop := ∀ a o, m a = some o → MoAt K H m a o
theorem MOk.there (h : MOk K H m) {a : Addr} {o : MO} (e : m a = some o) : H a ≠ none := by
  have q := h a o e
  cases o with
  | lst ds => obtain ⟨vs, q, _⟩ := q; rw [q]; simp
  | dic kvs => obtain ⟨vs, q, _⟩ := q; rw [q]; simp
  | ins C fs => obtain ⟨dx, vs, q, _⟩ := q; rw [q]; simp
theorem MOk.free (h : MOk K H m) {a : Addr} (e : H a = none) : m a = none := by
  cases q : m a with
  | none => rfl
  | some o => exact absurd e (h.there q)
/-- an object that is described alike in another heap and memory -/
theorem MoAt.step (s : Step H m H' m') {a : Addr} {o : MO} (e : H' a = H a) (h : MoAt K H m a o) : MoAt K H' m' a o := by
  cases o with
  | lst ds => obtain ⟨vs, q, r⟩ := h; exact ⟨vs, e.trans q, Iss.step s _ r⟩
  | dic kvs => obtain ⟨gs, q, r⟩ := h; exact ⟨gs, e.trans q, r.step s⟩
  | ins C fs => obtain ⟨dx, gs, q, r⟩ := h; exact ⟨dx, gs, e.trans q, r.step s⟩
/-- a new thing beside: tracked, not in the memory -/
theorem Step.new {p : Addr} {o : HO} (hp : H p = none) : Step H m (upd H p o) m :=
  ⟨fun a u h h' => ⟨by rw [upd_ne (ne_of_none h hp)]; exact h, h'⟩⟩
theorem MOk.new {p : Addr} {o : HO} (h : MOk K H m) (hp : H p = none) : MOk K (upd H p o) m := fun a u e =>
  (h a u e).step (Step.new hp) (by
    have : a ≠ p := by rintro rfl; exact h.there e hp
    rw [upd_ne this])
/-- a new thing in the memory -/
theorem Step.newM {p : Addr} {o : HO} {u : MO} (hp : H p = none) : Step H m (upd H p o) (mset m p u) :=
  ⟨fun a x h h' => ⟨by rw [upd_ne (ne_of_none h hp)]; exact h, by rw [mset_ne (ne_of_none h hp)]; exact h'⟩⟩
theorem MOk.newM {p : Addr} {o : HO} {u : MO} (h : MOk K H m) (hp : H p = none) (hu : MoAt K (upd H p o) (mset m p u) p u) : MOk K (upd H p o) (mset m p u) := fun a x e => by
  by_cases hb : a = p
  · subst hb; rw [mset_same] at e; cases e; exact hu
  · rw [mset_ne hb] at e
    exact (h a x e).step (Step.newM hp) (by rw [upd_ne hb])
/-- a thing of the memory changed -/
theorem Step.wr {p : Addr} {o : HO} {u w : MO} (hp : m p = some w) : Step H m (upd H p o) (mset m p u) :=
  ⟨fun a x h h' => by
    have : a ≠ p := by rintro rfl; rw [hp] at h'; cases h'
    exact ⟨by rw [upd_ne this]; exact h, by rw [mset_ne this]; exact h'⟩⟩
theorem MOk.wr {p : Addr} {o : HO} {u w : MO} (h : MOk K H m) (hp : m p = some w) (hu : MoAt K (upd H p o) (mset m p u) p u) : MOk K (upd H p o) (mset m p u) := fun a x e => by
  by_cases hb : a = p
  · subst hb; rw [mset_same] at e; cases e; exact hu
  · rw [mset_ne hb] at e
    exact (h a x e).step (Step.wr hp) (by rw [upd_ne hb])
/-- less in the memory -/
def Le (m' m : Mem) : Prop := ∀ a o, m' a = some o → m a = some o
theorem Le.refl {m : Mem} : Le m m := fun _ _ h => h
theorem Le.trans {m1 m2 m3 : Mem} (a : Le m1 m2) (b : Le m2 m3) : Le m1 m3 := fun x o h => b x o (a x o h)
theorem Le.new {m' : Mem} {p : Addr} {o : MO} (a : Le m' m) (h : m' p = none) : Le m' (mset m p o) := fun x u e => by
  have : x ≠ p := by rintro rfl; rw [h] at e; cases e
  rw [mset_ne this]; exact a x u e
theorem Le.del {m' : Mem} {p : Addr} (a : Le m' m) (h : m' p = none) : Le m' (mdel m p) := fun x u e => by
  have : x ≠ p := by rintro rfl; rw [h] at e; cases e
  rw [mdel_ne this]; exact a x u e
theorem Le.step (a : Le m' m) : Step H m H m' := ⟨fun x o h h' => ⟨h, by
  cases q : m' x with
  | none => rfl
  | some u => rw [a x u q] at h'; cases h'⟩⟩
theorem MOk.le (h : MOk K H m) (a : Le m' m) : MOk K H m' := fun x o e => (h x o (a x o e)).step a.step rfl
theorem Le.mdel {p : Addr} : Le (mdel m p) m := fun x o e => by
  by_cases hb : x = p
  · rw [hb, mdel_same] at e; cases e
  · rw [mdel_ne hb] at e; exact e
theorem Le.mset {m' : Mem} {p : Addr} {o : MO} (a : Le m' m) : Le (HB.mset m' p o) (HB.mset m p o) := fun x u e => by
  by_cases hb : x = p
  · rw [hb, mset_same] at e ⊢; exact e
  · rw [mset_ne hb] at e ⊢; exact a x u e
end
/-! ### slots -/
abbrev GEnv := List (Option D)
structure Slots (K : PySem.W.Frag) (H : Hp) (m : Mem) (σ : St) (Γ : GEnv) : Prop where
  len : Γ.length = σ.length
  get : ∀ (i : Nat) (d : D), Γ[i]? = some (some d) → ∃ v : V, σ[i]? = some (some v) ∧ Is K H m d v
section
variable {K : PySem.W.Frag} {H H' : Hp} {m m' : Mem} {σ : St} {Γ : GEnv}
theorem Slots.step (h : Slots K H m σ Γ) (s : Step H m H' m') : Slots K H' m' σ Γ :=
  ⟨h.len, fun i d e => let ⟨v, h1, h2⟩ := h.get i d e; ⟨v, h1, Is.step s d h2⟩⟩
theorem Slots.set (h : Slots K H m σ Γ) {i : Nat} {d : D} {v : V} (hv : Is K H m d v) : Slots K H m (σ.set i (some v)) (Γ.set i (some d)) := by
  refine ⟨by rw [List.length_set, List.length_set]; exact h.len, fun j x e => ?_⟩
  by_cases hj : j = i
  · subst hj
    by_cases hlt : j < Γ.length
    · rw [List.getElem?_set_self hlt] at e
      cases e
      exact ⟨v, List.getElem?_set_self (by rw [← h.len]; exact hlt), hv⟩
    · rw [List.getElem?_eq_none (by rw [List.length_set]; omega)] at e
      cases e
  · rw [List.getElem?_set_ne (Ne.symm hj)] at e ⊢
    exact h.get j x e
theorem Slots.setR (h : Slots K H m σ Γ) {i : Nat} {d d' : D} (e : Γ[i]? = some (some d)) (hd : ∀ v, Is K H m d v → Is K H m d' v) : Slots K H m σ (Γ.set i (some d')) := by
  refine ⟨by rw [List.length_set]; exact h.len, fun j x e' => ?_⟩
  by_cases hj : j = i
  · subst hj
    have hlt : j < Γ.length := (List.getElem?_eq_some_iff.mp e).1
    rw [List.getElem?_set_self hlt] at e'
    cases e'
    obtain ⟨v, h1, h2⟩ := h.get j d e
    exact ⟨v, h1, hd v h2⟩
  · rw [List.getElem?_set_ne (Ne.symm hj)] at e'
    exact h.get j x e'
end
/-! ### transformers -/
abbrev PD := D → Mem → Prop
abbrev SE := GEnv → Mem → PD → Prop
abbrev ST := GEnv → Mem → (Bool → Mem → Prop) → Prop
abbrev SA := GEnv → Mem → (List D → Mem → Prop) → Prop
structure SEnds where
  nx : GEnv → Mem → Prop
  rt : PD
  bk : GEnv → Mem → Prop := fun _ _ => False
  ct : GEnv → Mem → Prop := fun _ _ => False
abbrev SS := SEnds → GEnv → Mem → Prop
abbrev SG := D → GEnv → Mem → (GEnv → Mem → Prop) → Prop
abbrev SGs := List D → GEnv → Mem → (GEnv → Mem → Prop) → Prop
abbrev PT1 := List D → Mem → PD → Prop
/-- what a reading's end must bear -/
def KE (K : PySem.W.Frag) (H : Hp) (m : Mem) (P : PD) (Q : VK) : Prop := ∀ d m' v H', P d m' → Step H m H' m' → MOk K H' m' → Is K H' m' d v → Q v H'
def KT (K : PySem.W.Frag) (H : Hp) (m : Mem) (P : Bool → Mem → Prop) (Q : Bool → Hp → Prop) : Prop := ∀ b m' H', P b m' → Step H m H' m' → MOk K H' m' → Q b H'
def KA (K : PySem.W.Frag) (H : Hp) (m : Mem) (P : List D → Mem → Prop) (Q : List V → Hp → Prop) : Prop := ∀ ds m' vs H', P ds m' → Step H m H' m' → MOk K H' m' → Iss K H' m' ds vs → Q vs H'
def KN (K : PySem.W.Frag) (H : Hp) (m : Mem) (P : GEnv → Mem → Prop) (Q : St → Hp → Prop) : Prop := ∀ Γ' m' σ' H', P Γ' m' → Step H m H' m' → MOk K H' m' → Slots K H' m' σ' Γ' → Q σ' H'
structure KS (K : PySem.W.Frag) (H : Hp) (m : Mem) (E : SEnds) (D : Ends) : Prop where
  nx : KN K H m E.nx D.nx
  rt : KE K H m E.rt D.rt
  bk : KN K H m E.bk D.bk
  ct : KN K H m E.ct D.ct
theorem KE.step {K : PySem.W.Frag} {H H' : Hp} {m m' : Mem} {P : PD} {Q : VK} (k : KE K H m P Q) (s : Step H m H' m') : KE K H' m' P Q := fun d m2 v H2 h s2 o i => k d m2 v H2 h (s.trans s2) o i
theorem KT.step {K : PySem.W.Frag} {H H' : Hp} {m m' : Mem} {P : Bool → Mem → Prop} {Q : Bool → Hp → Prop} (k : KT K H m P Q) (s : Step H m H' m') : KT K H' m' P Q := fun d m2 H2 h s2 o => k d m2 H2 h (s.trans s2) o
theorem KA.step {K : PySem.W.Frag} {H H' : Hp} {m m' : Mem} {P : List D → Mem → Prop} {Q : List V → Hp → Prop} (k : KA K H m P Q) (s : Step H m H' m') : KA K H' m' P Q := fun d m2 v H2 h s2 o i => k d m2 v H2 h (s.trans s2) o i
theorem KN.step {K : PySem.W.Frag} {H H' : Hp} {m m' : Mem} {P : GEnv → Mem → Prop} {Q : St → Hp → Prop} (k : KN K H m P Q) (s : Step H m H' m') : KN K H' m' P Q := fun d m2 v H2 h s2 o i => k d m2 v H2 h (s.trans s2) o i
theorem KS.step {K : PySem.W.Frag} {H H' : Hp} {m m' : Mem} {E : SEnds} {D : Ends} (k : KS K H m E D) (s : Step H m H' m') : KS K H' m' E D := ⟨k.nx.step s, k.rt.step s, k.bk.step s, k.ct.step s⟩
def LiftE (K : PySem.W.Frag) (t : TE) (s : SE) : Prop := ∀ (σ : St) (H : Hp) (Γ : GEnv) (m : Mem) (P : PD) (Q : VK), Slots K H m σ Γ → MOk K H m → s Γ m P → KE K H m P Q → t σ H Q
def LiftT (K : PySem.W.Frag) (t : TT) (s : ST) : Prop := ∀ (σ : St) (H : Hp) (Γ : GEnv) (m : Mem) (P : Bool → Mem → Prop) (Q : Bool → Hp → Prop), Slots K H m σ Γ → MOk K H m → s Γ m P → KT K H m P Q → t σ H Q
def LiftA (K : PySem.W.Frag) (t : TA) (s : SA) : Prop := ∀ (σ : St) (H : Hp) (Γ : GEnv) (m : Mem) (P : List D → Mem → Prop) (Q : List V → Hp → Prop), Slots K H m σ Γ → MOk K H m → s Γ m P → KA K H m P Q → t σ H Q
def LiftS (K : PySem.W.Frag) (t : TS) (s : SS) : Prop := ∀ (σ : St) (H : Hp) (Γ : GEnv) (m : Mem) (E : SEnds) (D : Ends), Slots K H m σ Γ → MOk K H m → s E Γ m → KS K H m E D → t D σ H
def LiftG (K : PySem.W.Frag) (t : TG) (s : SG) : Prop := ∀ (σ : St) (H : Hp) (Γ : GEnv) (m : Mem) (d : D) (v : V) (P : GEnv → Mem → Prop) (Q : St → Hp → Prop), Slots K H m σ Γ → MOk K H m → Is K H m d v → s d Γ m P → KN K H m P Q → t v σ H Q
def LiftGs (K : PySem.W.Frag) (t : TGs) (s : SGs) : Prop := ∀ (σ : St) (H : Hp) (Γ : GEnv) (m : Mem) (ds : List D) (vs : List V) (P : GEnv → Mem → Prop) (Q : St → Hp → Prop), Slots K H m σ Γ → MOk K H m → Iss K H m ds vs → s ds Γ m P → KN K H m P Q → t vs σ H Q
def LE (X : Cx) (e : Expr) (s : SE) : Prop := ∃ t, PE X e t ∧ LiftE X.K t s
def LT (X : Cx) (e : Expr) (s : ST) : Prop := ∃ t, PT X e t ∧ LiftT X.K t s
def LW (X : Cx) (e : Expr) (s : ST) : Prop := ∃ t, PW X e t ∧ LiftT X.K t s
def LA (X : Cx) (es : List Expr) (s : SA) : Prop := ∃ t, PA X es t ∧ LiftA X.K t s
def LS (X : Cx) (st : Stmt) (s : SS) : Prop := ∃ t, PS X st t ∧ LiftS X.K t s
def LSs (X : Cx) (st : List Stmt) (s : SS) : Prop := ∃ t, PSs X st t ∧ LiftS X.K t s
def LG (X : Cx) (e : Expr) (s : SG) : Prop := ∃ t, PG X e t ∧ LiftG X.K t s
def LGs (X : Cx) (es : List Expr) (s : SGs) : Prop := ∃ t, PGs X es t ∧ LiftGs X.K t s
end HB
set_option Elab.async false
set_option linter.all false
set_option maxRecDepth 100000
set_option maxHeartbeats 4000000
/-! the lifted rules: expressions, tests, arguments -/
namespace HB
open PySem L2
section
variable {X : Cx} {a b c e : Expr} {es : List Expr} {pos p : Pos} {sa sb sc : SE}
/-! ### names, constants -/
def sVar (i : Nat) : SE := fun Γ m P => match Γ[i]? with
  | some (some d) => P d m
  | _ => False
def sC (d : D) : SE := fun _ m P => P d m
theorem lv (i : Nat) {x : Str} (hN : X.N[i]? = some x := by rfl) (hv : Vis X.env.scope x := by first | exact Or.inl rfl | exact Or.inr (Or.inl rfl) | exact Or.inr (Or.inr rfl)) (hd : (x == ("__debug__" : Str)) = false := by decide)
    (hcd : (x == ("__classdict__" : Str)) = false := by decide) : LE X (.Name x pos) (sVar i) := by
  refine ⟨tVar i, pe_var hN hv hd hcd, fun σ H Γ m P Q hs hm h hq => ?_⟩
  cases q : Γ[i]? with
  | none => simp only [sVar, q] at h
  | some o =>
    cases o with
    | none => simp only [sVar, q] at h
    | some d =>
      simp only [sVar, q] at h
      obtain ⟨v, h1, h2⟩ := hs.get i d q
      exact ⟨v, h1, hq d m v H h Step.refl hm h2⟩
theorem le_c {t : TE} {v : V} {d : D} (hp : PE X e (tC v)) (hi : ∀ H m, Is X.K H m d v) : LE X e (sC d) :=
  ⟨tC v, hp, fun σ H Γ m P Q hs hm h hq => hq d m v H h Step.refl hm (hi H m)⟩
theorem le_int {i j} : LE X (.Constant (.int i) j pos) (sC (.int i)) := le_c (t := tC (.int i)) pe_int fun _ _ => is_int.mpr rfl
theorem le_bl {k j} : LE X (.Constant (.bool k) j pos) (sC (.bl k)) := le_c (t := tC (.bl k)) pe_bl fun _ _ => is_bl.mpr rfl
theorem le_non {j} : LE X (.Constant .none j pos) (sC .non) := le_c (t := tC .non) pe_non fun _ _ => is_non.mpr rfl
theorem le_str {x j} : LE X (.Constant (.str x) j pos) (sC (.str x)) := le_c (t := tC (.str x)) pe_str fun _ _ => is_str.mpr rfl
/-- a name of the module -/
theorem le_glob {x : Str} {v : V} {u : Value} {d : D} (hm : X.mg x = some u) (r : RelV v u) (hi : ∀ H m, Is X.K H m d v) (hg : Gl X x := by rfl) (hd : (x == ("__debug__" : Str)) = false := by decide) : LE X (.Name x pos) (sC d) :=
  le_c (t := tC v) (pe_glob hg hm r hd) hi
theorem le_gref {x : Str} {A : Addr} (hm : X.mg x = some (.ref A)) (hg : Gl X x := by rfl) (hd : (x == ("__debug__" : Str)) = false := by decide) : LE X (.Name x pos) (sC (.ref A)) :=
  le_glob (v := .ref A) hm rfl (fun _ _ => is_ref.mpr rfl) hg hd
/-- a constant of the module: an int, a text -/
theorem le_gint {x : Str} {i : Int} (hm : ∃ t, X.mg x = some (.int i t)) (hg : Gl X x := by rfl) (hd : (x == ("__debug__" : Str)) = false := by decide) : LE X (.Name x pos) (sC (.int i)) := by
  obtain ⟨t, hm⟩ := hm
  exact le_glob (v := .int i) hm ⟨t, rfl⟩ (fun _ _ => is_int.mpr rfl) hg hd
theorem le_gstr {x z : Str} (hm : ∃ t, X.mg x = some (.str z t)) (hg : Gl X x := by rfl) (hd : (x == ("__debug__" : Str)) = false := by decide) : LE X (.Name x pos) (sC (.str z)) := by
  obtain ⟨t, hm⟩ := hm
  exact le_glob (v := .str z) hm ⟨t, rfl⟩ (fun _ _ => is_str.mpr rfl) hg hd
/-- a tuple of the module -/
theorem le_gtup {x : Str} {A : Addr} {ds : List D} (hm : X.mg x = some (.ref A)) (hi : ∀ H m, Is X.K H m (.tup ds) (.ref A)) (hg : Gl X x := by rfl) (hd : (x == ("__debug__" : Str)) = false := by decide) : LE X (.Name x pos) (sC (.tup ds)) :=
  le_glob (v := .ref A) hm rfl hi hg hd
/-- a built-in's name as a value -/
theorem le_bty {x : Str} {T : String} (hm : X.mg x = none) (hv : bootBuiltins x = some (.type T)) (hg : Gl X x := by rfl) (hn : x ≠ "__name__" := by decide) (hd : (x == ("__debug__" : Str)) = false := by decide) : LE X (.Name x pos) (sC (.ty T)) :=
  le_c (t := tC (.ty T)) (pe_bltn (v := .ty T) hg hm hv rfl hn hd) fun _ _ => is_ty.mpr rfl
/-! ### operators by values -/
abbrev Rho := D → D → Mem → PD → Prop
def LiftR (K : PySem.W.Frag) (r : R2) (ρ : Rho) : Prop := ∀ (x y : V) (dx dy : D) (H : Hp) (m : Mem) (P : PD) (Q : VK), MOk K H m → Is K H m dx x → Is K H m dy y → ρ dx dy m P → KE K H m P Q → r x y H Q
def LOp (X : Cx) (f : Value → Value → Sem Value) (ρ : Rho) : Prop := ∃ r, OpR X f r ∧ LiftR X.K r ρ
def sBin (ρ : Rho) (sa sb : SE) : SE := fun Γ m P => sa Γ m fun x m1 => sb Γ m1 fun y m2 => ρ x y m2 P
theorem lift_op {K : PySem.W.Frag} {r : R2} {ρ : Rho} {ta tb : TE} (lr : LiftR K r ρ) (la : LiftE K ta sa) (lb : LiftE K tb sb) : LiftE K (tOp r ta tb) (sBin ρ sa sb) := by
  intro σ H Γ m P Q hs hm h hq
  refine la σ H Γ m _ _ hs hm h fun dx m1 x H1 h1 s1 o1 i1 => ?_
  refine lb σ H1 Γ m1 _ _ (hs.step s1) o1 h1 fun dy m2 y H2 h2 s2 o2 i2 => ?_
  exact lr x y dx dy H2 m2 P Q o2 (i1.step s2) i2 h2 (hq.step (s1.trans s2))
theorem le_bin {op : Operator} {ρ : Rho} (ho : LOp X (binaryOp op) ρ) (ha : LE X a sa) (hb : LE X b sb) : LE X (.BinOp a op b pos) (sBin ρ sa sb) := by
  obtain ⟨r, o, lr⟩ := ho
  obtain ⟨ta, pa, la⟩ := ha
  obtain ⟨tb, pb, lb⟩ := hb
  exact ⟨_, pe_op o pa pb, lift_op lr la lb⟩
theorem le_cmp {op : CmpOp} {ρ : Rho} (ho : LOp X (compareOp op) ρ) (ha : LE X a sa) (hb : LE X b sb) (hm : behindInMarks op b = false := by first | exact nomark _ | rfl) : LE X (.Compare a [op] [b] pos) (sBin ρ sa sb) := by
  obtain ⟨r, o, lr⟩ := ho
  obtain ⟨ta, pa, la⟩ := ha
  obtain ⟨tb, pb, lb⟩ := hb
  exact ⟨_, pe_cmpR o pa pb hm, lift_op lr la lb⟩
/-- a value as a test: it is a bool -/
def sTest (s : SE) : ST := fun Γ m P => s Γ m fun d m1 => match d with
  | .bl k => P k m1
  | _ => False
theorem lift_test {K : PySem.W.Frag} {t : TE} (l : LiftE K t sa) : LiftT K (tTest t) (sTest sa) := by
  intro σ H Γ m P Q hs hm h hq
  refine l σ H Γ m _ _ hs hm h fun d m1 x H1 h1 s1 o1 i1 => ?_
  cases d with
  | bl k => exact ⟨k, is_bl.mp i1, hq k m1 H1 h1 s1 o1⟩
  | _ => exact (show False from h1).elim
theorem lt_cmp {op : CmpOp} {ρ : Rho} (ho : LOp X (compareOp op) ρ) (ha : LE X a sa) (hb : LE X b sb) (hm : behindInMarks op b = false := by first | exact nomark _ | rfl) : LT X (.Compare a [op] [b] pos) (sTest (sBin ρ sa sb)) := by
  obtain ⟨r, o, lr⟩ := ho
  obtain ⟨ta, pa, la⟩ := ha
  obtain ⟨tb, pb, lb⟩ := hb
  exact ⟨_, pt_cmpR o pa pb hm, lift_test (lift_op lr la lb)⟩
theorem lt_val {s : SE} (h : LE X e s) (he : ∀ whole, isTrue e X.env whole = (do let v ← whole; standAt e.pos; holding [v] (truthy v)) := by intro _; rfl) : LT X e (sTest s) := by
  obtain ⟨t, p, l⟩ := h
  exact ⟨_, pt_val p he, lift_test l⟩
/-- two comparisons in a row, as a test -/
def sChain (ρ ρ' : Rho) (sa sb sc : SE) : SE := fun Γ m P => sa Γ m fun x m1 => sb Γ m1 fun y m2 => ρ x y m2 fun z m3 => match z with
  | .bl true => sc Γ m3 fun w m4 => ρ' y w m4 P
  | .bl false => P (.bl false) m3
  | _ => False
theorem lift_chain {K : PySem.W.Frag} {r r' : R2} {ρ ρ' : Rho} {ta tb tc : TE} (lr : LiftR K r ρ) (lr' : LiftR K r' ρ') (la : LiftE K ta sa) (lb : LiftE K tb sb) (lc : LiftE K tc sc) : LiftE K (tChain r r' ta tb tc) (sChain ρ ρ' sa sb sc) := by
  intro σ H Γ m P Q hs hm h hq
  refine la σ H Γ m _ _ hs hm h fun dx m1 x H1 h1 s1 o1 i1 => ?_
  refine lb σ H1 Γ m1 _ _ (hs.step s1) o1 h1 fun dy m2 y H2 h2 s2 o2 i2 => ?_
  refine lr x y dx dy H2 m2 _ _ o2 (i1.step s2) i2 h2 fun dz m3 z H3 h3 s3 o3 i3 => ?_
  cases dz with
  | bl k =>
    refine ⟨k, is_bl.mp i3, ?_⟩
    cases k with
    | true =>
      refine lc σ H3 Γ m3 _ _ (((hs.step s1).step s2).step s3) o3 h3 fun dw m4 w H4 h4 s4 o4 i4 => ?_
      exact lr' y w dy dw H4 m4 P Q o4 ((i2.step s3).step s4) i4 h4 (hq.step (((s1.trans s2).trans s3).trans s4))
    | false => exact hq _ m3 _ H3 h3 ((s1.trans s2).trans s3) o3 (is_bl.mpr rfl)
  | _ => exact (show False from h3).elim
theorem lt_chain {op op' : CmpOp} {ρ ρ' : Rho} (ho : LOp X (compareOp op) ρ) (ho' : LOp X (compareOp op') ρ') (ha : LE X a sa) (hb : LE X b sb) (hc : LE X c sc)
    (hm : lastMarks [op, op'] [b, c] = false := by with_unfolding_all rfl) : LT X (.Compare a [op, op'] [b, c] pos) (sTest (sChain ρ ρ' sa sb sc)) := by
  obtain ⟨r, o, lr⟩ := ho
  obtain ⟨r', o', lr'⟩ := ho'
  obtain ⟨ta, pa, la⟩ := ha
  obtain ⟨tb, pb, lb⟩ := hb
  obtain ⟨tc, pc, lc⟩ := hc
  exact ⟨_, pt_chain o o' pa pb pc hm, lift_test (lift_chain lr lr' la lb lc)⟩
/-! ### tests -/
variable {ta tb : ST} {rest : List Expr}
def sAnd (s u : ST) : ST := fun Γ m P => s Γ m fun k m1 => match k with
  | true => u Γ m1 P
  | false => P false m1
def sOr (s u : ST) : ST := fun Γ m P => s Γ m fun k m1 => match k with
  | true => P true m1
  | false => u Γ m1 P
def sNot (s : ST) : ST := fun Γ m P => s Γ m fun k m1 => P (!k) m1
theorem lw_pt (h : LW X e ta) : LT X e ta := by
  obtain ⟨t, p, l⟩ := h
  exact ⟨t, p.pt, l⟩
theorem lw_and1 (h : LT X a ta) : LW X (.BoolOp .And [a] pos) ta := by
  obtain ⟨t, p, l⟩ := h
  exact ⟨t, pw_and1 p, l⟩
theorem lw_or1 (h : LT X a ta) : LW X (.BoolOp .Or [a] pos) ta := by
  obtain ⟨t, p, l⟩ := h
  exact ⟨t, pw_or1 p, l⟩
theorem lw_and (ha : LT X a ta) (hb : LW X (.BoolOp .And (b :: rest) pos) tb) : LW X (.BoolOp .And (a :: b :: rest) pos) (sAnd ta tb) := by
  obtain ⟨t, p, l⟩ := ha
  obtain ⟨u, q, l'⟩ := hb
  refine ⟨_, pw_and p q, fun σ H Γ m P Q hs hm h hq => ?_⟩
  refine l σ H Γ m _ _ hs hm h fun k m1 H1 h1 s1 o1 => ?_
  cases k with
  | true => exact l' σ H1 Γ m1 P Q (hs.step s1) o1 h1 (hq.step s1)
  | false => exact hq false m1 H1 h1 s1 o1
theorem lw_or (ha : LT X a ta) (hb : LW X (.BoolOp .Or (b :: rest) pos) tb) : LW X (.BoolOp .Or (a :: b :: rest) pos) (sOr ta tb) := by
  obtain ⟨t, p, l⟩ := ha
  obtain ⟨u, q, l'⟩ := hb
  refine ⟨_, pw_or p q, fun σ H Γ m P Q hs hm h hq => ?_⟩
  refine l σ H Γ m _ _ hs hm h fun k m1 H1 h1 s1 o1 => ?_
  cases k with
  | true => exact hq true m1 H1 h1 s1 o1
  | false => exact l' σ H1 Γ m1 P Q (hs.step s1) o1 h1 (hq.step s1)
theorem lt_not (h : LT X a ta) : LT X (.UnaryOp .Not a pos) (sNot ta) := by
  obtain ⟨t, p, l⟩ := h
  exact ⟨_, pt_not p, fun σ H Γ m P Q hs hm h hq => l σ H Γ m _ _ hs hm h fun k m1 H1 h1 s1 o1 => hq (!k) m1 H1 h1 s1 o1⟩
/-- as values, all bools -/
def sAndV (sa sb : SE) : SE := fun Γ m P => sa Γ m fun d m1 => match d with
  | .bl true => sb Γ m1 P
  | .bl false => P (.bl false) m1
  | _ => False
def sOrV (sa sb : SE) : SE := fun Γ m P => sa Γ m fun d m1 => match d with
  | .bl true => P (.bl true) m1
  | .bl false => sb Γ m1 P
  | _ => False
def sNotV (sa : SE) : SE := fun Γ m P => sa Γ m fun d m1 => match d with
  | .bl k => P (.bl (!k)) m1
  | _ => False
theorem le_one {op} (h : LE X a sa) : LE X (.BoolOp op [a] pos) sa := by
  obtain ⟨t, p, l⟩ := h
  exact ⟨t, pe_one p, l⟩
theorem le_and (ha : LE X a sa) (hb : LE X (.BoolOp .And (b :: rest) pos) sb) : LE X (.BoolOp .And (a :: b :: rest) pos) (sAndV sa sb) := by
  obtain ⟨t, p, l⟩ := ha
  obtain ⟨u, q, l'⟩ := hb
  refine ⟨_, pe_and p q, fun σ H Γ m P Q hs hm h hq => ?_⟩
  refine l σ H Γ m _ _ hs hm h fun d m1 v H1 h1 s1 o1 i1 => ?_
  cases d with
  | bl k =>
    refine ⟨k, is_bl.mp i1, ?_⟩
    cases k with
    | true => exact l' σ H1 Γ m1 P Q (hs.step s1) o1 h1 (hq.step s1)
    | false => exact hq _ m1 _ H1 h1 s1 o1 (is_bl.mpr rfl)
  | _ => exact (show False from h1).elim
theorem le_or (ha : LE X a sa) (hb : LE X (.BoolOp .Or (b :: rest) pos) sb) : LE X (.BoolOp .Or (a :: b :: rest) pos) (sOrV sa sb) := by
  obtain ⟨t, p, l⟩ := ha
  obtain ⟨u, q, l'⟩ := hb
  refine ⟨_, pe_or p q, fun σ H Γ m P Q hs hm h hq => ?_⟩
  refine l σ H Γ m _ _ hs hm h fun d m1 v H1 h1 s1 o1 i1 => ?_
  cases d with
  | bl k =>
    refine ⟨k, is_bl.mp i1, ?_⟩
    cases k with
    | true => exact hq _ m1 _ H1 h1 s1 o1 (is_bl.mpr rfl)
    | false => exact l' σ H1 Γ m1 P Q (hs.step s1) o1 h1 (hq.step s1)
  | _ => exact (show False from h1).elim
theorem le_not (h : LE X a sa) : LE X (.UnaryOp .Not a pos) (sNotV sa) := by
  obtain ⟨t, p, l⟩ := h
  refine ⟨_, pe_not p, fun σ H Γ m P Q hs hm h hq => l σ H Γ m _ _ hs hm h fun d m1 v H1 h1 s1 o1 i1 => ?_⟩
  cases d with
  | bl k => exact ⟨k, is_bl.mp i1, hq _ m1 _ H1 h1 s1 o1 (is_bl.mpr rfl)⟩
  | _ => exact (show False from h1).elim
def sIfE (t : ST) (sa sb : SE) : SE := fun Γ m P => t Γ m fun k m1 => match k with
  | true => sa Γ m1 P
  | false => sb Γ m1 P
theorem le_if (hc : LT X c ta) (ha : LE X a sa) (hb : LE X b sb) : LE X (.IfExp c a b pos) (sIfE ta sa sb) := by
  obtain ⟨t, p, l⟩ := hc
  obtain ⟨u, q, l1⟩ := ha
  obtain ⟨u', q', l2⟩ := hb
  refine ⟨_, pe_ifExp p q q', fun σ H Γ m P Q hs hm h hq => l σ H Γ m _ _ hs hm h fun k m1 H1 h1 s1 o1 => ?_⟩
  cases k with
  | true => exact l1 σ H1 Γ m1 P Q (hs.step s1) o1 h1 (hq.step s1)
  | false => exact l2 σ H1 Γ m1 P Q (hs.step s1) o1 h1 (hq.step s1)
/-! ### argument lists -/
def aNil : SA := fun _ m P => P [] m
def aCons (s : SE) (r : SA) : SA := fun Γ m P => s Γ m fun d m1 => r Γ m1 fun ds m2 => P (d :: ds) m2
theorem la_nil : LA X [] aNil := ⟨tNil, pa_nil, fun σ H Γ m P Q hs hm h hq => hq [] m [] H h Step.refl hm (iss_nil.mpr rfl)⟩
theorem la_cons {sr : SA} (ha : LE X e sa) (hr : LA X es sr) (hs : starEach (e :: es) X.env = (false, eval e X.env) :: starEach es X.env := by rfl) : LA X (e :: es) (aCons sa sr) := by
  obtain ⟨t, p, l⟩ := ha
  obtain ⟨u, q, l'⟩ := hr
  refine ⟨_, pa_cons p q hs, fun σ H Γ m P Q hs hm h hq => ?_⟩
  refine l σ H Γ m _ _ hs hm h fun d m1 v H1 h1 s1 o1 i1 => ?_
  refine l' σ H1 Γ m1 _ _ (hs.step s1) o1 h1 fun ds m2 vs H2 h2 s2 o2 i2 => ?_
  exact hq (d :: ds) m2 (v :: vs) H2 h2 (s1.trans s2) o2 (iss_cons.mpr ⟨v, vs, rfl, i1.step s2, i2⟩)
/-! ### displays -/
def sTup (t : SA) : SE := fun Γ m P => t Γ m fun ds m1 => ds.length ≤ 1000 ∧ P (.tup ds) m1
/-- a list that is never changed -/
def sLst (t : SA) : SE := fun Γ m P => t Γ m fun ds m1 => ds.length ≤ 1000 ∧ P (.lst ds) m1
/-- a list that will be changed -/
def sLstM (t : SA) : SE := fun Γ m P => t Γ m fun ds m1 => ds.length ≤ 1000 ∧ ∀ a, m1 a = none → P (.ref a) (mset m1 a (.lst ds))
theorem line1000 {n : Nat} (h : n ≤ 1000) : n ≤ sizeLine := Nat.le_trans h (by decide)
theorem newTup {K : PySem.W.Frag} {H : Hp} {m : Mem} {ds : List D} {vs : List V} {p : Addr} (hm : MOk K H m) (hp : H p = none) (i : Iss K H m ds vs) : Is K (upd H p (.tup vs)) m (.tup ds) (.ref p) :=
  is_tup.mpr ⟨p, vs, rfl, .inl ⟨upd_same, hm.free hp⟩, Iss.step (Step.new hp) ds i⟩
theorem newLst {K : PySem.W.Frag} {H : Hp} {m : Mem} {ds : List D} {vs : List V} {p : Addr} (hm : MOk K H m) (hp : H p = none) (i : Iss K H m ds vs) : Is K (upd H p (.lst vs)) m (.lst ds) (.ref p) :=
  is_lst.mpr ⟨p, vs, rfl, upd_same, hm.free hp, Iss.step (Step.new hp) ds i⟩
theorem newLstM {K : PySem.W.Frag} {H : Hp} {m : Mem} {ds : List D} {vs : List V} {p : Addr} (hm : MOk K H m) (hp : H p = none) (i : Iss K H m ds vs) : MOk K (upd H p (.lst vs)) (mset m p (.lst ds)) :=
  hm.newM hp ⟨vs, upd_same, Iss.step (Step.newM hp) ds i⟩
theorem le_tup {x1} {t : SA} (h : LA X es t) : LE X (.Tuple es x1 pos) (sTup t) := by
  obtain ⟨u, p, l⟩ := h
  refine ⟨_, pe_tup p, fun σ H Γ m P Q hs hm h hq => l σ H Γ m _ _ hs hm h fun ds m1 vs H1 h1 s1 o1 i1 => ⟨by rw [i1.length]; exact line1000 h1.1, fun p hp => ?_⟩⟩
  exact hq _ m1 _ _ h1.2 (s1.trans (Step.new hp)) (o1.new hp) (newTup o1 hp i1)
theorem le_lst {t : SA} (h : LA X es t) : LE X (.List es pos) (sLst t) := by
  obtain ⟨u, p, l⟩ := h
  refine ⟨_, pe_lst p, fun σ H Γ m P Q hs hm h hq => l σ H Γ m _ _ hs hm h fun ds m1 vs H1 h1 s1 o1 i1 => ⟨by rw [i1.length]; exact line1000 h1.1, fun p hp => ?_⟩⟩
  exact hq _ m1 _ _ h1.2 (s1.trans (Step.new hp)) (o1.new hp) (newLst o1 hp i1)
theorem le_lstM {t : SA} (h : LA X es t) : LE X (.List es pos) (sLstM t) := by
  obtain ⟨u, p, l⟩ := h
  refine ⟨_, pe_lst p, fun σ H Γ m P Q hs hm h hq => l σ H Γ m _ _ hs hm h fun ds m1 vs H1 h1 s1 o1 i1 => ⟨by rw [i1.length]; exact line1000 h1.1, fun p hp => ?_⟩⟩
  exact hq _ _ _ _ (h1.2 p (o1.free hp)) (s1.trans (Step.newM hp)) (newLstM o1 hp i1) (is_ref.mpr rfl)
/-! ### what may be read as a list, as a tuple, as an instance -/
def asL (m : Mem) : D → List D → Prop
  | .lst ds, es => es = ds
  | .ref a, es => m a = some (.lst es)
  | _, _ => False
def asT : D → List D → Prop
  | .tup ds, es => es = ds
  | _, _ => False
def asQ (m : Mem) : D → List D → Prop
  | .lst ds, es => es = ds
  | .tup ds, es => es = ds
  | .ref a, es => m a = some (.lst es)
  | _, _ => False
def asO (m : Mem) : D → Addr → List (Str × D) → Prop
  | .obj C ns ds, C', fs => C' = C ∧ fs = ns.zip ds
  | .ref a, C, fs => m a = some (.ins C fs)
  | _, _, _ => False
def asD (m : Mem) : D → List (Str × D) → Prop
  | .ref a, kvs => m a = some (.dic kvs)
  | _, _ => False
section
variable {K : PySem.W.Frag} {H : Hp} {m : Mem}
theorem asL_ok {d : D} {ds : List D} {v : V} (o : MOk K H m) (h : asL m d ds) (i : Is K H m d v) : ∃ a vs, v = .ref a ∧ H a = some (.lst vs) ∧ Iss K H m ds vs := by
  cases d with
  | lst es =>
    cases h
    obtain ⟨a, vs, e, h1, _, h2⟩ := is_lst.mp i
    exact ⟨a, vs, e, h1, h2⟩
  | ref a =>
    obtain ⟨vs, h1, h2⟩ := o a _ h
    exact ⟨a, vs, is_ref.mp i, h1, h2⟩
  | _ => exact (show False from h).elim
theorem asT_ok {d : D} {ds : List D} {v : V} (h : asT d ds) (i : Is K H m d v) : ∃ a vs, v = .ref a ∧ SqT K H a vs ∧ Iss K H m ds vs := by
  cases d with
  | tup es =>
    cases h
    obtain ⟨a, vs, e, h1, h2⟩ := is_tup.mp i
    exact ⟨a, vs, e, h1.sq, h2⟩
  | _ => exact (show False from h).elim
theorem asQ_ok {d : D} {ds : List D} {v : V} (o : MOk K H m) (h : asQ m d ds) (i : Is K H m d v) : ∃ a vs, v = .ref a ∧ (SqL K H a vs ∨ SqT K H a vs) ∧ Iss K H m ds vs := by
  cases d with
  | lst es =>
    cases h
    obtain ⟨a, vs, e, h1, _, h2⟩ := is_lst.mp i
    exact ⟨a, vs, e, .inl (SqL.of h1), h2⟩
  | tup es =>
    cases h
    obtain ⟨a, vs, e, h1, h2⟩ := is_tup.mp i
    exact ⟨a, vs, e, .inr h1.sq, h2⟩
  | ref a =>
    obtain ⟨vs, h1, h2⟩ := o a _ h
    exact ⟨a, vs, is_ref.mp i, .inl (SqL.of h1), h2⟩
  | _ => exact (show False from h).elim
theorem asO_ok {d : D} {C : Addr} {fs : List (Str × D)} {v : V} (o : MOk K H m) (h : asO m d C fs) (i : Is K H m d v) : ∃ a dx gs, v = .ref a ∧ H a = some (.ins C dx gs) ∧ FsR K H m fs gs := by
  cases d with
  | obj C' ns ds =>
    obtain ⟨rfl, rfl⟩ := h
    obtain ⟨a, dx, vs, e, h1, _, hl, h2⟩ := is_obj.mp i
    exact ⟨a, dx, _, e, h1, FsR.of_zip hl h2⟩
  | ref a =>
    obtain ⟨dx, gs, h1, h2⟩ := o a _ h
    exact ⟨a, dx, gs, is_ref.mp i, h1, h2⟩
  | _ => exact (show False from h).elim
end
end
end HB
set_option Elab.async false
set_option linter.all false
set_option maxRecDepth 100000
set_option maxHeartbeats 4000000
/-! operators by plain data -/
namespace HB
open PySem L2
mutual
def toPy : D → Option PyData
  | .non => some .none
  | .bl b => some (.bool b)
  | .int i => some (.int i)
  | .str x => some (.str x)
  | .lst ds => match toPys ds with
    | some ps => some (.list ps)
    | none => none
  | .tup ds => match toPys ds with
    | some ps => some (.tuple ps)
    | none => none
  | .ref _ => none
  | .ty _ => none
  | .obj _ _ _ => none
  | .scr _ => none
def toPys : List D → Option (List PyData)
  | [] => some []
  | d :: ds => match toPy d, toPys ds with
    | some p, some ps => some (p :: ps)
    | _, _ => none
end
section
variable {K : PySem.W.Frag} {H : Hp} {m : Mem}
mutual
theorem dp_of : ∀ (d : D) {v : V} {p : PyData}, Is K H m d v → toPy d = some p → Dp K H v p
  | .non, v, p, i, e => by
    rw [is_non.mp i]; simp only [toPy, Option.some.injEq] at e; rw [← e]; exact .non
  | .bl b, v, p, i, e => by
    rw [is_bl.mp i]; simp only [toPy, Option.some.injEq] at e; rw [← e]; exact .bl b
  | .int k, v, p, i, e => by
    rw [is_int.mp i]; simp only [toPy, Option.some.injEq] at e; rw [← e]; exact .int k
  | .str x, v, p, i, e => by
    rw [is_str.mp i]; simp only [toPy, Option.some.injEq] at e; rw [← e]; exact .str x
  | .lst ds, v, p, i, e => by
    obtain ⟨a, vs, rfl, h1, _, h2⟩ := is_lst.mp i
    cases q : toPys ds with
    | none => simp only [toPy, q] at e; cases e
    | some ps =>
      simp only [toPy, q, Option.some.injEq] at e
      rw [← e]
      exact .lst (SqL.of h1) (dps_of ds h2 q)
  | .tup ds, v, p, i, e => by
    obtain ⟨a, vs, rfl, h1, h2⟩ := is_tup.mp i
    cases q : toPys ds with
    | none => simp only [toPy, q] at e; cases e
    | some ps =>
      simp only [toPy, q, Option.some.injEq] at e
      rw [← e]
      exact .tup h1.sq (dps_of ds h2 q)
  | .ref _, _, _, _, e => by simp only [toPy] at e; cases e
  | .ty _, _, _, _, e => by simp only [toPy] at e; cases e
  | .obj _ _ _, _, _, _, e => by simp only [toPy] at e; cases e
  | .scr _, _, _, _, e => by simp only [toPy] at e; cases e
theorem dps_of : ∀ (ds : List D) {vs : List V} {ps : List PyData}, Iss K H m ds vs → toPys ds = some ps → DpAll K H vs ps
  | [], vs, ps, i, e => by
    rw [iss_nil.mp i]; simp only [toPys, Option.some.injEq] at e; rw [← e]; exact .nil
  | d :: ds, vs, ps, i, e => by
    obtain ⟨v, r, rfl, h1, h2⟩ := iss_cons.mp i
    cases q1 : toPy d with
    | none => simp only [toPys, q1] at e; cases e
    | some p =>
      cases q2 : toPys ds with
      | none => simp only [toPys, q1, q2] at e; cases e
      | some qs =>
        simp only [toPys, q1, q2, Option.some.injEq] at e
        rw [← e]
        exact .cons (dp_of d h1 q1) (dps_of ds h2 q2)
end
theorem dpL_of {d : D} {ds : List D} {v : V} {ps : List PyData} (o : MOk K H m) (h : asL m d ds) (i : Is K H m d v) (e : toPys ds = some ps) : Dp K H v (.list ps) := by
  obtain ⟨a, vs, rfl, h1, h2⟩ := asL_ok o h i
  exact .lst (SqL.of h1) (dps_of ds h2 e)
end
/-- two data that may be compared at any depth -/
def eqD (dx dy : D) (k : Bool) : Prop := ∃ p q, toPy dx = some p ∧ toPy dy = some q ∧ SeqAt.shaped p = true ∧ SeqAt.shaped q = true ∧ PyData.eqv p q = k
/-! ### the operators -/
section
variable {X : Cx}
theorem lor_add_i : LiftR X.K (rI0 fun i j => .int (i + j)) (fun dx dy m P => match dx, dy with
  | .int i, .int j => P (.int (i + j)) m
  | _, _ => False) := by
  intro x y dx dy H m P Q o ix iy h hq
  cases dx with
  | int i =>
    cases dy with
    | int j => exact ⟨i, j, is_int.mp ix, is_int.mp iy, hq _ m _ H h Step.refl o (is_int.mpr rfl)⟩
    | _ => exact (show False from h).elim
  | _ => exact (show False from h).elim
def rhoAdd : Rho := fun dx dy m P => match dx, dy with
  | .int i, .int j => P (.int (i + j)) m
  | .str x, .str y => x.length + y.length ≤ 1000000 ∧ P (.str (x ++ y)) m
  | .lst ds, .lst es => ds.length + es.length ≤ 1000000 ∧ P (.lst (ds ++ es)) m
  | _, _ => False
theorem line6 {n : Nat} (h : n ≤ 1000000) : n ≤ sizeLine := Nat.le_trans h (by decide)
theorem lo_add : LOp X (binaryOp .Add) rhoAdd := by
  refine ⟨_, op_add.or (op_add_str.or op_cat), fun x y dx dy H m P Q o ix iy h hq => ?_⟩
  cases dx with
  | int i =>
    cases dy with
    | int j => exact .inl ⟨i, j, is_int.mp ix, is_int.mp iy, hq _ m _ H h Step.refl o (is_int.mpr rfl)⟩
    | _ => exact (show False from h).elim
  | str a =>
    cases dy with
    | str b => exact .inr (.inl ⟨a, b, is_str.mp ix, is_str.mp iy, line6 h.1, hq _ m _ H h.2 Step.refl o (is_str.mpr rfl)⟩)
    | _ => exact (show False from h).elim
  | lst ds =>
    cases dy with
    | lst es =>
      obtain ⟨l, xs, rfl, h1, _, i1⟩ := is_lst.mp ix
      obtain ⟨b, zs, rfl, h2, _, i2⟩ := is_lst.mp iy
      refine .inr (.inr ⟨l, b, xs, zs, rfl, rfl, h1, h2, by rw [i1.length, i2.length]; exact line6 h.1, fun p hp => ?_⟩)
      exact hq _ m _ _ h.2 (Step.new hp) (o.new hp) (newLst o hp (i1.append i2))
    | _ => exact (show False from h).elim
  | _ => exact (show False from h).elim
def rhoI (C : Int → Int → Prop) (g : Int → Int → Int) : Rho := fun dx dy m P => match dx, dy with
  | .int i, .int j => C i j ∧ P (.int (g i j)) m
  | _, _ => False
theorem lift_rI {K : PySem.W.Frag} {C : Int → Int → Prop} {g : Int → Int → Int} : LiftR K (rI C fun i j => .int (g i j)) (rhoI C g) := by
  intro x y dx dy H m P Q o ix iy h hq
  cases dx with
  | int i =>
    cases dy with
    | int j => exact ⟨i, j, is_int.mp ix, is_int.mp iy, h.1, hq _ m _ H h.2 Step.refl o (is_int.mpr rfl)⟩
    | _ => exact (show False from h).elim
  | _ => exact (show False from h).elim
def rhoI0 (g : Int → Int → Int) : Rho := fun dx dy m P => match dx, dy with
  | .int i, .int j => P (.int (g i j)) m
  | _, _ => False
theorem lift_rI0 {K : PySem.W.Frag} {g : Int → Int → Int} : LiftR K (rI0 fun i j => .int (g i j)) (rhoI0 g) := by
  intro x y dx dy H m P Q o ix iy h hq
  cases dx with
  | int i =>
    cases dy with
    | int j => exact ⟨i, j, is_int.mp ix, is_int.mp iy, hq _ m _ H h Step.refl o (is_int.mpr rfl)⟩
    | _ => exact (show False from h).elim
  | _ => exact (show False from h).elim
def rhoB (g : Int → Int → Bool) : Rho := fun dx dy m P => match dx, dy with
  | .int i, .int j => P (.bl (g i j)) m
  | _, _ => False
theorem lift_rB {K : PySem.W.Frag} {g : Int → Int → Bool} : LiftR K (rI0 fun i j => .bl (g i j)) (rhoB g) := by
  intro x y dx dy H m P Q o ix iy h hq
  cases dx with
  | int i =>
    cases dy with
    | int j => exact ⟨i, j, is_int.mp ix, is_int.mp iy, hq _ m _ H h Step.refl o (is_bl.mpr rfl)⟩
    | _ => exact (show False from h).elim
  | _ => exact (show False from h).elim
abbrev rhoSub : Rho := rhoI0 fun i j => i - j
theorem lo_sub : LOp X (binaryOp .Sub) rhoSub := ⟨_, op_sub, lift_rI0⟩
abbrev rhoMod : Rho := rhoI (fun _ j => 0 < j) fun i j => i % j
theorem lo_mod : LOp X (binaryOp .Mod) rhoMod := ⟨_, op_mod, lift_rI⟩
abbrev rhoDiv : Rho := rhoI CDivW fun i j => i / j
theorem lo_div : LOp X (binaryOp .FloorDiv) rhoDiv := ⟨_, op_fdivW, lift_rI⟩
abbrev rhoPow : Rho := rhoI CPow fun i j => i ^ j.toNat
theorem lo_pow : LOp X (binaryOp .Pow) rhoPow := ⟨_, op_pow, lift_rI⟩
abbrev rhoLt : Rho := rhoB fun i j => decide (i < j)
abbrev rhoLe : Rho := rhoB fun i j => decide (i ≤ j)
abbrev rhoGt : Rho := rhoB fun i j => decide (j < i)
abbrev rhoGe : Rho := rhoB fun i j => decide (j ≤ i)
theorem lo_lt : LOp X (compareOp .Lt) rhoLt := ⟨_, op_lt, lift_rB⟩
theorem lo_le : LOp X (compareOp .LtE) rhoLe := ⟨_, op_le, lift_rB⟩
theorem lo_gt : LOp X (compareOp .Gt) rhoGt := ⟨_, op_gt, lift_rB⟩
theorem lo_ge : LOp X (compareOp .GtE) rhoGe := ⟨_, op_ge, lift_rB⟩
/-- a text some times over -/
def strRep (x : Str) (n : Int) : Str := if n < 1 then Str.empty else if (n == 1 || x.length == 0) = true then x else ⟨(List.replicate n.toNat x.cps).foldl (· ++ ·) #[]⟩
theorem op_mulS : OpR X (binaryOp .Mult) (fun x y H Q => ∃ z n, x = .str z ∧ y = .int n ∧ 0 ≤ n ∧ n ≤ 100 ∧ z.length ≤ 10000 ∧ Q (.str (strRep z n)) H) := by
  intro pins s σ H x y v u Q I rx ry h
  obtain ⟨z, n, rfl, rfl, h0, h1, hz, q⟩ := h
  obtain ⟨t, rfl⟩ := rx
  obtain ⟨t', rfl⟩ := ry
  have hz' : (z.length : Int) * 1 ≤ 10000 := by omega
  refine PySem.P.mul_str ?_ ?_ ?_ ?_
  · rw [decide_eq_false (by omega), decide_eq_false (by omega)]; rfl
  · intro hn _
    have hn' : 1 ≤ n := by omega
    have h2 : (100 : Int) * 10000 ≤ 2 ^ 63 - 1 := by decide
    have h3 : (z.length : Int) * n ≤ 2 ^ 63 - 1 := by
      have h4 : (z.length : Int) * n ≤ 10000 * n := Int.mul_le_mul_of_nonneg_right (by omega) (by omega)
      omega
    have h5 : (z.length : Int) ≤ (2 ^ 63 - 1) / n := (Int.le_ediv_iff_mul_le (by omega)).mpr h3
    omega
  · intro hn _
    have h6 : z.length * n.toNat ≤ 10000 * 100 := Nat.mul_le_mul hz (by omega)
    show decide (sizeLine < z.length * n.toNat) = false
    have h7 : sizeLine = 16777216 := sizeLine_eq
    exact decide_eq_false (by omega)
  · show Made.post (if n < 1 then Made.str Str.empty else if (n == 1 || z.length == 0) = true then Made.val (.str z t) else Made.str ⟨(List.replicate n.toNat z.cps).foldl (· ++ ·) #[]⟩) _ s
    unfold strRep at q
    by_cases c : n < 1
    · rw [if_pos c] at q ⊢
      exact ⟨by decide, .str _, H, I.tok _, ⟨_, rfl⟩, q⟩
    · rw [if_neg c] at q ⊢
      by_cases c2 : (n == 1 || z.length == 0) = true
      · rw [if_pos c2] at q ⊢
        exact ⟨.str _, H, I, ⟨_, rfl⟩, q⟩
      · rw [if_neg c2] at q ⊢
        refine ⟨?_, .str _, H, I.tok _, ⟨_, rfl⟩, q⟩
        have h6 : z.length * n.toNat ≤ 10000 * 100 := Nat.mul_le_mul hz (by omega)
        have hl : ∀ (k : Nat) (a : Array Nat), ((List.replicate k z.cps).foldl (· ++ ·) a).size = a.size + k * z.cps.size := by
          intro k
          induction k with
          | zero => intro a; simp
          | succ k ih =>
            intro a
            rw [List.replicate_succ, List.foldl_cons, ih, Array.size_append, Nat.succ_mul]
            omega
        have h8 : (⟨(List.replicate n.toNat z.cps).foldl (· ++ ·) #[]⟩ : Str).length = n.toNat * z.length := by
          show ((List.replicate n.toNat z.cps).foldl (· ++ ·) #[]).size = _
          rw [hl]; simp [Str.length]
        rw [h8, Nat.mul_comm]
        have h7 : sizeLine = 16777216 := sizeLine_eq
        omega
def rhoMul : Rho := fun dx dy m P => match dx, dy with
  | .int i, .int j => (-(2 ^ 64) < j ∧ j < 2 ^ 64) ∧ P (.int (i * j)) m
  | .str x, .int n => (0 ≤ n ∧ n ≤ 100 ∧ x.length ≤ 10000) ∧ P (.str (strRep x n)) m
  | _, _ => False
theorem lo_mul : LOp X (binaryOp .Mult) rhoMul := by
  refine ⟨_, op_mul.or op_mulS, fun x y dx dy H m P Q o ix iy h hq => ?_⟩
  cases dx with
  | int i =>
    cases dy with
    | int j => exact .inl ⟨i, j, is_int.mp ix, is_int.mp iy, .inr h.1, hq _ m _ H h.2 Step.refl o (is_int.mpr rfl)⟩
    | _ => exact (show False from h).elim
  | str a =>
    cases dy with
    | int j => exact .inr ⟨a, j, is_str.mp ix, is_int.mp iy, h.1.1, h.1.2.1, h.1.2.2, hq _ m _ H h.2 Step.refl o (is_str.mpr rfl)⟩
    | _ => exact (show False from h).elim
  | _ => exact (show False from h).elim
/-! ### ==, != -/
def rhoEq (neg : Bool) : Rho := fun dx dy m P => match dx, dy with
  | .int i, .int j => P (.bl (xor neg (decide (i = j)))) m
  | .str x, .str y => P (.bl (xor neg (decide (x = y)))) m
  | .bl x, .bl y => P (.bl (xor neg (decide (x = y)))) m
  | .tup ds, .tup es => ∃ k, eqD (.tup ds) (.tup es) k ∧ P (.bl (xor neg k)) m
  | .lst ds, .lst es => ∃ k, eqD (.lst ds) (.lst es) k ∧ P (.bl (xor neg k)) m
  | .non, .int _ => P (.bl (xor neg false)) m
  | _, _ => False
theorem lo_eq (hu : X.A.units + 64 < cLine) : LOp X (compareOp .Eq) (rhoEq false) := by
  refine ⟨_, op_eq.or (op_eqD hu), fun x y dx dy H m P Q o ix iy h hq => ?_⟩
  cases dx with
  | non =>
    cases dy with
    | int j =>
      rw [is_non.mp ix, is_int.mp iy]
      refine .inl ⟨rfl, hq (.bl (decide (V.non = V.int j))) m _ H ?_ Step.refl o (is_bl.mpr rfl)⟩
      have h' : P (.bl (xor false false)) m := h
      simpa using h'
    | _ => exact (show False from h).elim
  | int i =>
    cases dy with
    | int j =>
      rw [is_int.mp ix, is_int.mp iy]
      refine .inl ⟨rfl, hq (.bl (decide (V.int i = V.int j))) m _ H ?_ Step.refl o (is_bl.mpr rfl)⟩
      have h' : P (.bl (xor false (decide (i = j)))) m := h
      simpa using h'
    | _ => exact (show False from h).elim
  | str i =>
    cases dy with
    | str j =>
      rw [is_str.mp ix, is_str.mp iy]
      refine .inl ⟨rfl, hq (.bl (decide (V.str i = V.str j))) m _ H ?_ Step.refl o (is_bl.mpr rfl)⟩
      have h' : P (.bl (xor false (decide (i = j)))) m := h
      simpa using h'
    | _ => exact (show False from h).elim
  | bl i =>
    cases dy with
    | bl j =>
      rw [is_bl.mp ix, is_bl.mp iy]
      refine .inl ⟨rfl, hq (.bl (decide (V.bl i = V.bl j))) m _ H ?_ Step.refl o (is_bl.mpr rfl)⟩
      have h' : P (.bl (xor false (decide (i = j)))) m := h
      simpa using h'
    | _ => exact (show False from h).elim
  | tup ds =>
    cases dy with
    | tup es =>
      obtain ⟨k, ⟨p, q, e1, e2, s1, s2, rfl⟩, h'⟩ := h
      refine .inr ⟨p, q, dp_of _ ix e1, dp_of _ iy e2, s1, s2, hq _ m _ H h' Step.refl o (is_bl.mpr ?_)⟩
      simp
    | _ => exact (show False from h).elim
  | lst ds =>
    cases dy with
    | lst es =>
      obtain ⟨k, ⟨p, q, e1, e2, s1, s2, rfl⟩, h'⟩ := h
      refine .inr ⟨p, q, dp_of _ ix e1, dp_of _ iy e2, s1, s2, hq _ m _ H h' Step.refl o (is_bl.mpr ?_)⟩
      simp
    | _ => exact (show False from h).elim
  | _ => exact (show False from h).elim
theorem lo_ne (hu : X.A.units + 64 < cLine) : LOp X (compareOp .NotEq) (rhoEq true) := by
  refine ⟨_, op_ne.or (op_neD hu), fun x y dx dy H m P Q o ix iy h hq => ?_⟩
  cases dx with
  | non =>
    cases dy with
    | int j =>
      rw [is_non.mp ix, is_int.mp iy]
      refine .inl ⟨rfl, hq (.bl (!decide (V.non = V.int j))) m _ H ?_ Step.refl o (is_bl.mpr rfl)⟩
      have h' : P (.bl (xor true false)) m := h
      simpa using h'
    | _ => exact (show False from h).elim
  | int i =>
    cases dy with
    | int j =>
      rw [is_int.mp ix, is_int.mp iy]
      refine .inl ⟨rfl, hq (.bl (!decide (V.int i = V.int j))) m _ H ?_ Step.refl o (is_bl.mpr rfl)⟩
      have h' : P (.bl (xor true (decide (i = j)))) m := h
      simpa using h'
    | _ => exact (show False from h).elim
  | str i =>
    cases dy with
    | str j =>
      rw [is_str.mp ix, is_str.mp iy]
      refine .inl ⟨rfl, hq (.bl (!decide (V.str i = V.str j))) m _ H ?_ Step.refl o (is_bl.mpr rfl)⟩
      have h' : P (.bl (xor true (decide (i = j)))) m := h
      simpa using h'
    | _ => exact (show False from h).elim
  | bl i =>
    cases dy with
    | bl j =>
      rw [is_bl.mp ix, is_bl.mp iy]
      refine .inl ⟨rfl, hq (.bl (!decide (V.bl i = V.bl j))) m _ H ?_ Step.refl o (is_bl.mpr rfl)⟩
      have h' : P (.bl (xor true (decide (i = j)))) m := h
      simpa using h'
    | _ => exact (show False from h).elim
  | tup ds =>
    cases dy with
    | tup es =>
      obtain ⟨k, ⟨p, q, e1, e2, s1, s2, rfl⟩, h'⟩ := h
      refine .inr ⟨p, q, dp_of _ ix e1, dp_of _ iy e2, s1, s2, hq _ m _ H h' Step.refl o (is_bl.mpr ?_)⟩
      simp
    | _ => exact (show False from h).elim
  | lst ds =>
    cases dy with
    | lst es =>
      obtain ⟨k, ⟨p, q, e1, e2, s1, s2, rfl⟩, h'⟩ := h
      refine .inr ⟨p, q, dp_of _ ix e1, dp_of _ iy e2, s1, s2, hq _ m _ H h' Step.refl o (is_bl.mpr ?_)⟩
      simp
    | _ => exact (show False from h).elim
  | _ => exact (show False from h).elim
/-! ### is None -/
def isNon : D → Bool
  | .non => true
  | _ => false
def rhoIsN (neg : Bool) : Rho := fun dx dy m P => match dy with
  | .non => P (.bl (xor neg (isNon dx))) m
  | _ => False
theorem isN_of {K : PySem.W.Frag} {H : Hp} {m : Mem} {d : D} {v : V} (i : Is K H m d v) : decide (v = .non) = isNon d := by
  cases d with
  | non => rw [is_non.mp i]; rfl
  | bl b => rw [is_bl.mp i]; rfl
  | int b => rw [is_int.mp i]; rfl
  | str b => rw [is_str.mp i]; rfl
  | ref b => rw [is_ref.mp i]; rfl
  | ty b => rw [is_ty.mp i]; rfl
  | lst ds => obtain ⟨a, vs, rfl, _⟩ := is_lst.mp i; rfl
  | tup ds => obtain ⟨a, vs, rfl, _⟩ := is_tup.mp i; rfl
  | obj C ns ds => obtain ⟨a, dx, vs, rfl, _⟩ := is_obj.mp i; rfl
  | scr ns => obtain ⟨a, rfl, _⟩ := is_scr.mp i; rfl
theorem lo_is : LOp X (compareOp .Is) (rhoIsN false) := by
  refine ⟨_, op_isN, fun x y dx dy H m P Q o ix iy h hq => ?_⟩
  cases dy with
  | non =>
    refine ⟨is_non.mp iy, ?_⟩
    rw [isN_of ix]
    exact hq _ m _ H h Step.refl o (is_bl.mpr (by simp))
  | _ => exact (show False from h).elim
theorem lo_isnot : LOp X (compareOp .IsNot) (rhoIsN true) := by
  refine ⟨_, op_notN, fun x y dx dy H m P Q o ix iy h hq => ?_⟩
  cases dy with
  | non =>
    refine ⟨is_non.mp iy, ?_⟩
    rw [isN_of ix]
    exact hq _ m _ H h Step.refl o (is_bl.mpr (by simp))
  | _ => exact (show False from h).elim
/-! ### in -/
theorem inV_strs (x : Str) : ∀ xs : List Str, inV (.str x) (xs.map V.str) = decide (x ∈ xs)
  | [] => by simp [inV]
  | y :: ys => by
    have ih := inV_strs x ys
    unfold inV at ih ⊢
    rw [List.map_cons, List.any_cons, ih]
    show ((y == x) || decide (x ∈ ys)) = decide (x ∈ y :: ys)
    by_cases e : x = y
    · subst e; simp
    · have : (y == x) = false := by simpa using fun q => e q.symm
      rw [this]; simp [e]
theorem inV_bls (x : Bool) : ∀ xs : List Bool, inV (.bl x) (xs.map V.bl) = decide (x ∈ xs)
  | [] => by simp [inV]
  | y :: ys => by
    have ih := inV_bls x ys
    unfold inV at ih ⊢
    rw [List.map_cons, List.any_cons, ih]
    show ((y == x) || decide (x ∈ ys)) = decide (x ∈ y :: ys)
    by_cases e : x = y
    · subst e; simp
    · have : (y == x) = false := by simpa using fun q => e q.symm
      rw [this]; simp [e]
theorem Iss.bls {K : PySem.W.Frag} {H : Hp} {m : Mem} : ∀ {xs : List Bool} {vs : List V}, Iss K H m (xs.map D.bl) vs → vs = xs.map V.bl
  | [], _, h => iss_nil.mp h
  | x :: xs, _, h => by
    obtain ⟨v, r, rfl, h1, h2⟩ := iss_cons.mp h
    rw [is_bl.mp h1, Iss.bls h2]; rfl
def rhoIn (neg : Bool) : Rho := fun dx dy m P => match dx, dy with
  | .str x, .str z => ∃ c, x = ⟨#[c]⟩ ∧ P (.bl (xor neg (decide (c ∈ z.cps.toList)))) m
  | .str x, _ => ∃ xs : List Str, asQ m dy (xs.map D.str) ∧ P (.bl (xor neg (decide (x ∈ xs)))) m
  | .bl x, _ => ∃ xs : List Bool, asQ m dy (xs.map D.bl) ∧ P (.bl (xor neg (decide (x ∈ xs)))) m
  | .tup _, _ => ∃ ds p ps, asL m dy ds ∧ toPy dx = some p ∧ toPys ds = some ps ∧ SeqAt.shaped p = true ∧ SeqAt.shaped (.list ps) = true ∧ P (.bl (xor neg (ps.any fun z => PyData.eqv z p))) m
  | _, _ => False
theorem flat_strs (xs : List Str) : (xs.map V.str).all flatV = true := by
  induction xs with
  | nil => rfl
  | cons x xs ih => rw [List.map_cons, List.all_cons, ih]; rfl
theorem flat_bls (xs : List Bool) : (xs.map V.bl).all flatV = true := by
  induction xs with
  | nil => rfl
  | cons x xs ih => rw [List.map_cons, List.all_cons, ih]; rfl
theorem lo_in (hu : X.A.units + 65 < cLine) : LOp X (compareOp .In) (rhoIn false) := by
  refine ⟨_, op_in_sign.or (op_in_seq.or (op_inD hu)), fun x y dx dy H m P Q o ix iy h hq => ?_⟩
  have hstr : ∀ z : Str, dx = .str z → (∃ xs : List Str, asQ m dy (xs.map D.str) ∧ P (.bl (xor false (decide (z ∈ xs)))) m) → rIn X.K false x y H Q := by
    rintro z rfl ⟨xs, hx, h'⟩
    obtain ⟨a, vs, rfl, h1, h2⟩ := asQ_ok o hx iy
    rw [h2.strs] at h1
    rw [is_str.mp ix]
    refine ⟨a, _, rfl, h1, rfl, flat_strs xs, hq _ m _ H h' Step.refl o (is_bl.mpr ?_)⟩
    rw [inV_strs]; simp
  cases dx with
  | str z =>
    cases dy with
    | str w =>
      obtain ⟨c, rfl, h'⟩ := h
      exact .inl ⟨c, w, is_str.mp ix, is_str.mp iy, hq _ m _ H h' Step.refl o (is_bl.mpr (by simp))⟩
    | _ => exact .inr (.inl (hstr z rfl h))
  | bl z =>
    obtain ⟨xs, hx, h'⟩ := h
    obtain ⟨a, vs, rfl, h1, h2⟩ := asQ_ok o hx iy
    rw [h2.bls] at h1
    rw [is_bl.mp ix]
    refine .inr (.inl ⟨a, _, rfl, h1, rfl, flat_bls xs, hq _ m _ H h' Step.refl o (is_bl.mpr ?_)⟩)
    rw [inV_bls]; simp
  | tup es =>
    obtain ⟨ds, p, ps, hl, e1, e2, s1, s2, h'⟩ := h
    exact .inr (.inr ⟨p, ps, dp_of _ ix e1, dpL_of o hl iy e2, s1, s2, hq _ m _ H h' Step.refl o (is_bl.mpr (by simp))⟩)
  | _ => exact (show False from h).elim
theorem lo_notin (hu : X.A.units + 65 < cLine) : LOp X (compareOp .NotIn) (rhoIn true) := by
  refine ⟨_, op_notIn_sign.or (op_notIn_seq.or (op_notInD hu)), fun x y dx dy H m P Q o ix iy h hq => ?_⟩
  have hstr : ∀ z : Str, dx = .str z → (∃ xs : List Str, asQ m dy (xs.map D.str) ∧ P (.bl (xor true (decide (z ∈ xs)))) m) → rIn X.K true x y H Q := by
    rintro z rfl ⟨xs, hx, h'⟩
    obtain ⟨a, vs, rfl, h1, h2⟩ := asQ_ok o hx iy
    rw [h2.strs] at h1
    rw [is_str.mp ix]
    refine ⟨a, _, rfl, h1, rfl, flat_strs xs, hq _ m _ H h' Step.refl o (is_bl.mpr ?_)⟩
    rw [inV_strs]; simp
  cases dx with
  | str z =>
    cases dy with
    | str w =>
      obtain ⟨c, rfl, h'⟩ := h
      exact .inl ⟨c, w, is_str.mp ix, is_str.mp iy, hq _ m _ H h' Step.refl o (is_bl.mpr (by simp))⟩
    | _ => exact .inr (.inl (hstr z rfl h))
  | bl z =>
    obtain ⟨xs, hx, h'⟩ := h
    obtain ⟨a, vs, rfl, h1, h2⟩ := asQ_ok o hx iy
    rw [h2.bls] at h1
    rw [is_bl.mp ix]
    refine .inr (.inl ⟨a, _, rfl, h1, rfl, flat_bls xs, hq _ m _ H h' Step.refl o (is_bl.mpr ?_)⟩)
    rw [inV_bls]; simp
  | tup es =>
    obtain ⟨ds, p, ps, hl, e1, e2, s1, s2, h'⟩ := h
    exact .inr (.inr ⟨p, ps, dp_of _ ix e1, dpL_of o hl iy e2, s1, s2, hq _ m _ H h' Step.refl o (is_bl.mpr (by simp))⟩)
  | _ => exact (show False from h).elim
end
end HB
set_option Elab.async false
set_option linter.all false
set_option maxRecDepth 100000
set_option maxHeartbeats 4000000
/-! calls by plain data: a def's promise as a transformer -/
namespace HB
open PySem PySem.Spec PyProof.Rows L2
/-- a promise: from data and memory to what is wanted -/
def SpG (K : PySem.W.Frag) (T : PT1) (vs : List V) (H : Hp) (Q : VK) : Prop := ∃ ds m P, Iss K H m ds vs ∧ MOk K H m ∧ T ds m P ∧ KE K H m P Q
def SpE (K : PySem.W.Frag) (T : PT1) : Sp := fun vs H Q _ => SpG K T vs H Q
/-- a def that keeps T; g: it wants that nothing is being shown (repr) -/
def FnQ (g : Bool) (P : Program) (w : World) (K : PySem.W.Frag) (mg : Str → Option Value) (base : Heap) (k : Nat) (f : Addr) (T : PT1) : Prop :=
  ∀ (A : Around) (outer : List PySem.Env) (s : Shared) (H : Hp) (us : List Value) (vs : List V) (Q : VK), Room k A → (g = true → A.guards = some []) → Env0 P w K mg base A outer s H → Vals vs us → SpG K T vs H Q →
    codeAny (model P w) A (.call (.ref f) ⟨us, []⟩) (CR CX0 outer P w H s Q E0) s
/-- the same called with keywords ks behind the positional ones -/
def FnK (P : Program) (w : World) (K : PySem.W.Frag) (mg : Str → Option Value) (base : Heap) (k : Nat) (f : Addr) (n : Nat) (ks : List Str) (T : PT1) : Prop :=
  ∀ (A : Around) (outer : List PySem.Env) (s : Shared) (H : Hp) (us ws : List Value) (vs zs : List V) (Q : VK), Room k A → Env0 P w K mg base A outer s H → Vals vs us → Vals zs ws → us.length = n → ws.length = ks.length → SpG K T (vs ++ zs) H Q →
    codeAny (model P w) A (.call (.ref f) ⟨us, ks.zip ws⟩) (CR CX0 outer P w H s Q E0) s
section
variable {P : Program} {w : World} {K : PySem.W.Frag} {mg : Str → Option Value} {base : Heap} {j k : Nat} {f : Addr} {T : PT1} {g : Bool}
theorem FnQ.mono (F : FnQ g P w K mg base j f T) (h : j ≤ k) : FnQ g P w K mg base k f T := fun A o s H us vs Q hr => F A o s H us vs Q (hr.mono h)
theorem FnQ.raw (F : FnQ false P w K mg base k f T) : FnR P w K mg base CX0 k f (SpE K T) := fun A o s H us vs Q _ hr e0 rv h => by
  have z := F A o s H us vs Q hr (fun q => nomatch q) e0 rv h
  refine codeAny_mono z fun r s' hq => ?_
  cases r with
  | error e => exact False.elim hq
  | ok fl => cases fl <;> exact hq
theorem FnQ.any (F : FnQ false P w K mg base k f T) : FnQ g P w K mg base k f T := fun A o s H us vs Q hr _ e0 rv h => F A o s H us vs Q hr (fun q => nomatch q) e0 rv h
end
/-! ### a body -/
def ends1 (P : PD) : SEnds where
  nx := fun _ m' => ∃ m'', Le m'' m' ∧ P .non m''
  rt := fun d m' => ∃ m'', Le m'' m' ∧ P d m''
def startG (N : List Str) (ds : List D) : GEnv := ds.map some ++ List.replicate (N.length - ds.length) none
theorem slots_start {K : PySem.W.Frag} {H : Hp} {m : Mem} {N : List Str} {ds : List D} {vs : List V} (i : Iss K H m ds vs) : Slots K H m (L2.start N vs) (startG N ds) := by
  have hl := i.length
  refine ⟨by unfold L2.start startG; simp [hl], fun j d e => ?_⟩
  unfold startG at e
  unfold L2.start
  by_cases hj : j < ds.length
  · rw [List.getElem?_append_left (by simpa using hj), List.getElem?_map] at e
    rw [List.getElem?_append_left (by rw [List.length_map]; omega), List.getElem?_map]
    cases q : ds[j]? with
    | none => rw [q] at e; cases e
    | some x =>
      rw [q] at e
      have ex : x = d := by simpa using e
      subst ex
      obtain ⟨v, h1, h2⟩ := i.get q
      exact ⟨v, by rw [h1]; rfl, h2⟩
  · rw [List.getElem?_append_right (by simpa using hj), List.getElem?_replicate] at e
    split at e <;> cases e
theorem ends_ok {K : PySem.W.Frag} {H : Hp} {m : Mem} {P : PD} {Q : VK} (hq : KE K H m P Q) : KS K H m (ends1 P) { nx := fun _ H' => Q .non H', rt := Q } where
  nx := fun Γ' m' σ' H' h s o _ => by
    obtain ⟨m'', l, p⟩ := h
    exact hq .non m'' .non H' p (s.trans l.step) (o.le l) (is_non.mpr rfl)
  rt := fun d m' v H' h s o i => by
    obtain ⟨m'', l, p⟩ := h
    exact hq d m'' v H' p (s.trans l.step) (o.le l) (i.step l.step)
  bk := fun _ _ _ _ h _ _ _ => (show False from h).elim
  ct := fun _ _ _ _ h _ _ _ => (show False from h).elim
theorem guards_deeper {A : Around} {env : PySem.Env} (h : A.guards = some []) : (A.deeper env).guards = some [] := by
  first
    | exact h
    | (show (A.deeper env).guards = some []; simp [Around.deeper, h])
section
variable {P : Program} {w : World} {K : PySem.W.Frag} {mg : Str → Option Value} {base : Heap} {k : Nat} {f : Addr} {name qual : Str} {params : Arguments} {body : List Stmt} {scope : Scope} {dvs : List V} {kws : List (Str × V)} {fd : FuncData} {N ps : List Str} {T : PT1} {s : SS} {g : Bool}
/-- the body's derivation -/
def Body (g : Bool) (P : Program) (w : World) (K : PySem.W.Frag) (mg : Str → Option Value) (base : Heap) (k : Nat) (N : List Str) (qual : Str) (scope : Scope) (f : Addr) (body : List Stmt) (s : SS) : Prop :=
  ∀ (cdv : Value) (A : Around) (outer : List PySem.Env) (st : Shared) (H : Hp) (E : XK), Room k (A.deeper (envOfC qual scope st.heap.objs.size f cdv)) → (g = true → (A.deeper (envOfC qual scope st.heap.objs.size f cdv)).guards = some []) →
    LSs (cxOf CX0 P w K mg base N qual scope f cdv A outer st H E).nox body s
theorem body_run (hB : Body g P w K mg base k N qual scope f body s) (hp : ∀ ds m Pd, T ds m Pd → s (ends1 Pd) (startG N ds) m) {cdv : Value} {A : Around} {outer : List PySem.Env} {st : Shared} {H : Hp} {Q : VK} {vs : List V}
    (hr : Room k (A.deeper (envOfC qual scope st.heap.objs.size f cdv))) (hg : g = true → A.guards = some []) (h : SpG K T vs H Q) :
    ∃ t, PSs (cxOf CX0 P w K mg base N qual scope f cdv A outer st H E0) body t ∧ t { nx := fun _ H' => Q .non H', rt := Q } (L2.start N vs) H := by
  obtain ⟨t, p, l⟩ := hB cdv A outer st H E0 hr fun q => guards_deeper (hg q)
  obtain ⟨ds, m, Pd, i, o, hT, hq⟩ := h
  exact ⟨t, p.nox, l (L2.start N vs) H (startG N ds) m (ends1 Pd) _ (slots_start i) o (hp ds m Pd hT) (ends_ok hq)⟩
theorem fnQ_of (F : FunD K name qual params body scope dvs kws f fd) (S : FnScope N ps scope) (hb : Binds K fd ps []) (hl : ∀ ds m Pd, T ds m Pd → ds.length = ps.length) (hB : Body g P w K mg base k N qual scope f body s)
    (hp : ∀ ds m Pd, T ds m Pd → s (ends1 Pd) (startG N ds) m) : FnQ g P w K mg base (k + 1) f T := by
  intro A outer st H us vs Q hr hg e0 rv h
  obtain ⟨oc, od, dV, kV, doc, pm, an, cdv, ct, osl, rfl, lk, hcd, _, _⟩ := F.ex
  have hlen : vs.length = ps.length := by
    obtain ⟨ds, m, Pd, i, _, hT, _⟩ := h
    rw [i.length]; exact hl ds m Pd hT
  have KX : K.In st.heap := e0.mod.kin.keeps fun b o e => (e0.bs b o e).1
  refine StX.run_bnd (G := fun ws H2 => ws = vs ∧ H2 = H) (E := E0) lk hcd S hr e0 (fun A' Ex Q' hQ => ?_) fun s2 H2 ws hG hr' => ?_
  · have b := hb st us KX (by rw [List.append_nil, ← rv.length]; exact hlen)
    rw [List.append_nil] at b
    exact b _ _ _ _ (hQ st H vs us e0 Un.refl rfl (fun _ _ z => z) rv hlen ⟨rfl, rfl⟩)
  · obtain ⟨rfl, rfl⟩ := hG
    exact body_run hB hp hr' hg h
theorem fnK_of {n : Nat} {ks : List Str} (F : FunD K name qual params body scope dvs kws f fd) (S : FnScope N ps scope) (hb : ∀ (st : Shared) (us ws : List Value), K.In st.heap → us.length = n → ws.length = ks.length → BindsTo st fd ⟨us, ks.zip ws⟩ (ps.zip (us ++ ws)))
    (hl : ∀ ds m Pd, T ds m Pd → ds.length = ps.length) (hB : Body false P w K mg base k N qual scope f body s)
    (hp : ∀ ds m Pd, T ds m Pd → s (ends1 Pd) (startG N ds) m) : FnK P w K mg base (k + 1) f n ks T := by
  intro A outer st H us zu vs zs Q hr e0 rv rz hn hks h
  obtain ⟨oc, od, dV, kV, doc, pm, an, cdv, ct, osl, rfl, lk, hcd, _, _⟩ := F.ex
  have hlen : (vs ++ zs).length = ps.length := by
    obtain ⟨ds, m, Pd, i, _, hT, _⟩ := h
    rw [i.length]; exact hl ds m Pd hT
  have KX : K.In st.heap := e0.mod.kin.keeps fun b o e => (e0.bs b o e).1
  refine StX.run_bnd (G := fun ws H2 => ws = vs ++ zs ∧ H2 = H) (E := E0) lk hcd S hr e0 (fun A' Ex Q' hQ => ?_) fun s2 H2 ws hG hr' => ?_
  · exact hb st us zu KX hn hks _ _ _ _ (hQ st H (vs ++ zs) (us ++ zu) e0 Un.refl rfl (fun _ _ z => z) (rv.append rz) hlen ⟨rfl, rfl⟩)
  · obtain ⟨rfl, rfl⟩ := hG
    exact body_run (g := false) hB hp hr' (fun q => nomatch q) h
/-- def f(a, .., *v): the data behind the first ps.length are a new tuple -/
def starT (n : Nat) (T : PT1) : PT1 := fun ds m P => n ≤ ds.length ∧ ds.length ≤ 1000 ∧ T (ds.take n ++ [.tup (ds.drop n)]) m P
theorem fnQ_star {pv : Str} (F : FunD K name qual params body scope dvs kws f fd) (S : FnScope N (ps ++ [pv]) scope) (hl : ∀ ds m Pd, T ds m Pd → ds.length = ps.length + 1)
    (hb : ∀ (dV kV doc pm : Value) (an : Option Addr) (cdv ct : Value) (us rest : List Value), us.length = ps.length → bindArgs (PySem.W.fnOf name qual params body scope dV kV doc pm an cdv ct) ⟨us ++ rest, []⟩ = (newTuple rest >>= fun t => pure (ps.zip us ++ [(pv, t)])))
    (hB : Body false P w K mg base k N qual scope f body s) (hp : ∀ ds m Pd, T ds m Pd → s (ends1 Pd) (startG N ds) m) : FnQ false P w K mg base (k + 1) f (starT ps.length T) := by
  intro A outer st H us vs Q hr hg e0 rv h
  obtain ⟨oc, od, dV, kV, doc, pm, an, cdv, ct, osl, rfl, lk, hcd, _, _⟩ := F.ex
  obtain ⟨ds, m, Pd, i, o, ⟨hn, hz, hT⟩, hq⟩ := h
  have hlen := i.length
  refine StX.fn_star lk hcd S StX.cxUp_none (hb dV kV doc pm an cdv ct) (sp := SpE K T) (fun A outer s H vs Q E hr h => ?_) A outer st H us vs Q E0 hr e0 rv ⟨vs.take ps.length, vs.drop ps.length, (List.take_append_drop _ _).symm, by rw [List.length_take]; omega, by rw [List.length_drop]; exact line1000 (by omega), fun p hp' => ?_⟩
  · obtain ⟨t, p, l⟩ := hB cdv A outer s H E hr (fun q => nomatch q)
    obtain ⟨ds, m, Pd, i, o, hT, hq⟩ := h
    exact ⟨t, p.nox, l (L2.start N vs) H (startG N ds) m (ends1 Pd) _ (slots_start i) o (hp ds m Pd hT) (ends_ok hq)⟩
  · have nw := Step.new (m := m) (o := .tup (vs.drop ps.length)) hp'
    refine ⟨ds.take ps.length ++ [.tup (ds.drop ps.length)], m, Pd, (Iss.step nw _ (i.take _)).append (Iss.one (newTup o hp' (i.drop _))), o.new hp', hT, hq.step nw⟩
end
/-! ### calls -/
section
variable {X : Cx} {pins : List (Addr × Obj)} {σ : L2.St} {H : Hp} {s : Shared} {k : Nat} {f C : Addr} {T : PT1} {g : Bool} {x m : Str} {e o : Expr} {es : List Expr} {p pos apos : Pos} {sa : SA} {so : SE}
theorem run_fnQ {Q : VK} {us : List Value} {vs : List V} (F : FnQ g X.prog X.w X.K X.mg X.base k f T) (hr : Room k X.A) (hg : g = true → X.A.guards = some []) (I : Inv X pins σ H s) (r : Vals vs us) (h : SpG X.K T vs H Q) :
    codeAny (model X.prog X.w) X.A (.call (.ref f) ⟨us, []⟩) (fun r s' => match r with | .ok (.ret v) => EP X pins σ Q v s' | .ok _ => False | .error e => X.xe e s') s := by
  refine codeAny_mono (F X.A X.stack s H us vs Q hr hg I.env0 r h) fun r s' hq => ?_
  cases r with
  | error e => exact False.elim hq
  | ok fl =>
    cases fl with
    | ret u => exact I.after hq
    | next => exact False.elim hq
    | brk => exact False.elim hq
    | cont => exact False.elim hq
theorem run_fnK {n : Nat} {ks : List Str} {Q : VK} {us ws : List Value} {vs zs : List V} (F : FnK X.prog X.w X.K X.mg X.base k f n ks T) (hr : Room k X.A) (I : Inv X pins σ H s) (r : Vals vs us) (rz : Vals zs ws) (hn : us.length = n) (hl : ws.length = ks.length) (h : SpG X.K T (vs ++ zs) H Q) :
    codeAny (model X.prog X.w) X.A (.call (.ref f) ⟨us, ks.zip ws⟩) (fun r s' => match r with | .ok (.ret v) => EP X pins σ Q v s' | .ok _ => False | .error e => X.xe e s') s := by
  refine codeAny_mono (F X.A X.stack s H us ws vs zs Q hr I.env0 r rz hn hl h) fun r s' hq => ?_
  cases r with
  | error e => exact False.elim hq
  | ok fl =>
    cases fl with
    | ret u => exact I.after hq
    | next => exact False.elim hq
    | brk => exact False.elim hq
    | cont => exact False.elim hq
def tCallG (K : PySem.W.Frag) (T : PT1) (t : TA) : TE := fun σ H Q => t σ H fun vs H1 => SpG K T vs H1 Q
def sCall (T : PT1) (sa : SA) : SE := fun Γ m P => sa Γ m fun ds m1 => T ds m1 P
theorem lift_call {K : PySem.W.Frag} {t : TA} (l : LiftA K t sa) : LiftE K (tCallG K T t) (sCall T sa) := fun σ H Γ m P Q hs hm h hq =>
  l σ H Γ m _ _ hs hm h fun ds m1 vs H1 h1 s1 o1 i1 => ⟨ds, m1, P, i1, o1, h1, hq.step s1⟩
/-- f(e, ..) -/
theorem le_call (F : FnQ g X.prog X.w X.K X.mg X.base k f T) (hr : Room k X.A) (hm : X.mg x = some (.ref f)) (hk : PySem.W.keepIn X.K (.ref f) = true) (ha : LA X (e :: es) sa) (hgd : g = true → X.A.guards = some [] := by exact fun q => nomatch q) (hg : Gl X x := by rfl)
    (hdb : (x == ("__debug__" : Str)) = false := by decide) (he : starEach (e :: es) X.env = (false, eval e X.env) :: starEach es X.env := by rfl) (hpl : (backTo pos (starEach es X.env)).any (·.1) = false := by rfl) :
    LE X (.Call (.Name x p) (e :: es) [] pos) (sCall T sa) := by
  obtain ⟨t, pa, l⟩ := ha
  refine ⟨tCallG X.K T t, ⟨fun pins s σ H Q I h => ?_⟩, lift_call l⟩
  refine wpAny_Call_Name_kw (ld_glob I hg hm ?_ hdb)
  refine PySem.W.callWith_K (h₀ := X.base) I.ok.mod.kin hk (thn (pa.run pos pins s σ H _ I h) fun us s1 ⟨vs, H1, I1, r, q⟩ => ⟨I1.kIn, ?_⟩) he hpl
  exact wpAny_call (run_fnQ F hr hgd I1 r q)
/-- o.m(e, ..), o an instance of the class at C -/
def tMethG (K : PySem.W.Frag) (C : Addr) (x : Str) (T : PT1) (to : TE) (t : TA) : TE := fun σ H Q => to σ H fun v H1 => ∃ a dx fs, v = .ref a ∧ H1 a = some (.ins C dx fs) ∧ fs.lookup x = none ∧ t σ H1 fun vs H2 => SpG K T (v :: vs) H2 Q
def sMeth (C : Addr) (x : Str) (T : PT1) (so : SE) (sa : SA) : SE := fun Γ m P => so Γ m fun d m1 => (∃ fs, asO m1 d C fs ∧ fs.lookup x = none) ∧ sa Γ m1 fun ds m2 => T (d :: ds) m2 P
theorem lift_meth {K : PySem.W.Frag} {to : TE} {t : TA} (lo : LiftE K to so) (l : LiftA K t sa) : LiftE K (tMethG K C x T to t) (sMeth C x T so sa) := by
  intro σ H Γ m P Q hs hm h hq
  refine lo σ H Γ m _ _ hs hm h fun d m1 v H1 h1 s1 o1 i1 => ?_
  obtain ⟨⟨fs, ho, hn⟩, h1⟩ := h1
  obtain ⟨a, dx, gs, rfl, e1, r1⟩ := asO_ok o1 ho i1
  refine ⟨a, dx, gs, rfl, e1, r1.no hn, ?_⟩
  refine l σ H1 Γ m1 _ _ (hs.step s1) o1 h1 fun ds m2 vs H2 h2 s2 o2 i2 => ?_
  exact ⟨d :: ds, m2, P, iss_cons.mpr ⟨_, vs, rfl, i1.step s2, i2⟩, o2, h2, hq.step (s1.trans s2)⟩
theorem le_meth {pl : Sem Bool} (ho : LE X o so) (c : Cls X.K C) (hm : Meth X.K C x f) (F : FnQ g X.prog X.w X.K X.mg X.base k f T) (hr : Room k X.A) (ha : LA X (e :: es) sa) (hgd : g = true → X.A.guards = some [] := by exact fun q => nomatch q)
    (hst : starEach (e :: es) X.env = (false, eval e X.env) :: starEach es X.env := by rfl) (hpl : (backTo pos (starEach es X.env)).any (·.1) = false := by rfl)
    (ht : eval (.Call (.Attribute o x apos) (e :: es) [] pos) X.env = (do
      let ov ← eval o X.env
      standAt apos.atName
      let (f, first) ← holding [ov] (getMethod ov x pl)
      callWith pos f first (backTo pos (starEach (e :: es) X.env)) (backToKw pos (keywordEach [] X.env))) := by rfl) :
    LE X (.Call (.Attribute o x apos) (e :: es) [] pos) (sMeth C x T so sa) := by
  obtain ⟨to, po, lo⟩ := ho
  obtain ⟨t, pa, l⟩ := ha
  refine ⟨tMethG X.K C x T to t, ⟨fun pins s σ H Q I h => ?_⟩, lift_meth lo l⟩
  refine PySem.W.methodCall_KW (pl := pl) (thn (po.run pins s σ H _ I h) fun u s1 ⟨v, H1, I1, rx, a, dx, fs, ex, ea, l, q⟩ => ?_) ht
  subst ex
  obtain rfl : u = Value.ref a := rx
  refine getmeth_ok I1 ea c hm l ?_
  refine PySem.W.callWith_K (first := [.ref a]) (h₀ := X.base) I.ok.mod.kin hm.kp (thn (pa.run pos pins s1 σ H1 _ I1 q) fun us s2 ⟨vs, H2, I2, r, q2⟩ => ⟨I2.kIn, ?_⟩) hst hpl
  exact wpAny_call (run_fnQ (us := .ref a :: us) (vs := .ref a :: vs) F hr hgd I2 (.cons rfl r) q2)
theorem le_meth0 {pl : Sem Bool} (ho : LE X o so) (c : Cls X.K C) (hm : Meth X.K C x f) (F : FnQ g X.prog X.w X.K X.mg X.base k f T) (hr : Room k X.A) (hgd : g = true → X.A.guards = some [] := by exact fun q => nomatch q)
    (ht : eval (.Call (.Attribute o x apos) [] [] pos) X.env = (do
      let ov ← eval o X.env
      standAt apos.atName
      let (f, first) ← holding [ov] (getMethod ov x pl)
      callWith pos f first (backTo pos (starEach [] X.env)) (backToKw pos (keywordEach [] X.env))) := by rfl) :
    LE X (.Call (.Attribute o x apos) [] [] pos) (sMeth C x T so aNil) := by
  obtain ⟨to, po, lo⟩ := ho
  obtain ⟨t, pa, l⟩ := (la_nil : LA X [] aNil)
  refine ⟨tMethG X.K C x T to tNil, ⟨fun pins s σ H Q I h => ?_⟩, lift_meth lo fun σ H Γ m P Q hs hm h hq => hq [] m [] H h Step.refl hm (iss_nil.mpr rfl)⟩
  refine PySem.W.methodCall_KW (pl := pl) (thn (po.run pins s σ H _ I h) fun u s1 ⟨v, H1, I1, rx, a, dx, fs, ex, ea, l, q⟩ => ?_) ht
  subst ex
  obtain rfl : u = Value.ref a := rx
  refine getmeth_ok I1 ea c hm l ?_
  exact PySem.W.callWith_K0 (first := [.ref a]) I1.kIn hm.kp (wpAny_call (run_fnQ (us := [.ref a]) (vs := [.ref a]) F hr hgd I1 (.cons rfl .nil) q))
/-! keywords -/
abbrev SK := SA
def LK (X : Cx) (kws : List Keyword) (s : SA) : Prop := ∃ t, PK X kws t ∧ LiftA X.K t s
theorem lk_nil : LK X [] aNil := ⟨tNil, pk_nil, fun σ H Γ m P Q hs hm h hq => hq [] m [] H h Step.refl hm (iss_nil.mpr rfl)⟩
theorem lk_cons {nm : Option Str} {kpos : Pos} {kws : List Keyword} {sr : SA} (ha : LE X e so) (hr : LK X kws sr) : LK X (⟨nm, e, kpos⟩ :: kws) (aCons so sr) := by
  obtain ⟨t, p, l⟩ := ha
  obtain ⟨u, q, l'⟩ := hr
  refine ⟨_, pk_cons p q, fun σ H Γ m P Q hs hm h hq => ?_⟩
  refine l σ H Γ m _ _ hs hm h fun d m1 v H1 h1 s1 o1 i1 => ?_
  refine l' σ H1 Γ m1 _ _ (hs.step s1) o1 h1 fun ds m2 vs H2 h2 s2 o2 i2 => ?_
  exact hq (d :: ds) m2 (v :: vs) H2 h2 (s1.trans s2) o2 (iss_cons.mpr ⟨v, vs, rfl, i1.step s2, i2⟩)
/-- o.m(e, .., k = v) -/
def tMethK (K : PySem.W.Frag) (C : Addr) (x : Str) (n nk : Nat) (T : PT1) (to : TE) (t tk : TA) : TE := fun σ H Q => to σ H fun v H1 => ∃ a dx fs, v = .ref a ∧ H1 a = some (.ins C dx fs) ∧ fs.lookup x = none ∧ t σ H1 fun vs H2 => tk σ H2 fun zs H3 => vs.length + 1 = n ∧ zs.length = nk ∧ SpG K T (v :: (vs ++ zs)) H3 Q
def sMethK (C : Addr) (x : Str) (n nk : Nat) (T : PT1) (so : SE) (sa sk : SA) : SE := fun Γ m P => so Γ m fun d m1 => (∃ fs, asO m1 d C fs ∧ fs.lookup x = none) ∧ sa Γ m1 fun ds m2 => sk Γ m2 fun es m3 => ds.length + 1 = n ∧ es.length = nk ∧ T (d :: (ds ++ es)) m3 P
theorem le_methK {pl : Sem Bool} {n : Nat} {ks : List Str} {kws : List Keyword} {sk : SA} (ho : LE X o so) (c : Cls X.K C) (hm : Meth X.K C x f) (F : FnK X.prog X.w X.K X.mg X.base k f n ks T) (hr : Room k X.A) (ha : LA X (e :: es) sa) (hk : LK X kws sk)
    (hall : (backToKw pos (keywordEach kws X.env)).all (·.1.isSome) = true := by rfl) (hks : (backToKw pos (keywordEach kws X.env)).filterMap (·.1) = ks := by rfl)
    (hst : starEach (e :: es) X.env = (false, eval e X.env) :: starEach es X.env := by rfl) (hpl : ((backTo pos (starEach (e :: es) X.env)).any (·.1) || (backToKw pos (keywordEach kws X.env)).any (·.1.isNone)) = false := by rfl)
    (ht : eval (.Call (.Attribute o x apos) (e :: es) kws pos) X.env = (do
      let ov ← eval o X.env
      standAt apos.atName
      let (f, first) ← holding [ov] (getMethod ov x pl)
      callWith pos f first (backTo pos (starEach (e :: es) X.env)) (backToKw pos (keywordEach kws X.env))) := by rfl) :
    LE X (.Call (.Attribute o x apos) (e :: es) kws pos) (sMethK C x n ks.length T so sa sk) := by
  obtain ⟨to, po, lo⟩ := ho
  obtain ⟨t, pa, l⟩ := ha
  obtain ⟨tk, pk, lk⟩ := hk
  refine ⟨tMethK X.K C x n ks.length T to t tk, ⟨fun pins s σ H Q I h => ?_⟩, ?_⟩
  · refine PySem.W.methodCall_KW (pl := pl) (thn (po.run pins s σ H _ I h) fun u s1 ⟨v, H1, I1, rx, a, dx, fs, ex, ea, l, q⟩ => ?_) ht
    subst ex
    obtain rfl : u = Value.ref a := rx
    refine getmeth_ok I1 ea c hm l ?_
    refine PySem.W.callWith_KW (first := [.ref a]) (h₀ := X.base) I.ok.mod.kin hm.kp hall (thn (pa.run pos pins s1 σ H1 _ I1 q) fun us s2 ⟨vs, H2, I2, r, q2⟩ => ?_) hpl hst
    refine thn (pk.run pos pins s2 σ H2 _ I2 q2) fun ws s3 ⟨zs, H3, I3, rz, q3, q4, q5⟩ => ⟨I3.kIn, ?_⟩
    rw [hks]
    exact wpAny_call (run_fnK (us := .ref a :: us) (vs := .ref a :: vs) F hr I3 (.cons rfl r) rz (by rw [List.length_cons, ← r.length]; exact q3) (by rw [← rz.length]; exact q4) q5)
  · intro σ H Γ m P Q hs hm h hq
    refine lo σ H Γ m _ _ hs hm h fun d m1 v H1 h1 s1 o1 i1 => ?_
    obtain ⟨⟨fs, hO, hn⟩, h1⟩ := h1
    obtain ⟨a, dx, gs, rfl, e1, r1⟩ := asO_ok o1 hO i1
    refine ⟨a, dx, gs, rfl, e1, r1.no hn, ?_⟩
    refine l σ H1 Γ m1 _ _ (hs.step s1) o1 h1 fun ds m2 vs H2 h2 s2 o2 i2 => ?_
    refine lk σ H2 Γ m2 _ _ ((hs.step s1).step s2) o2 h2 fun es m3 zs H3 h3 s3 o3 i3 => ?_
    obtain ⟨n1, n2, h3⟩ := h3
    exact ⟨by rw [i2.length]; exact n1, by rw [i3.length]; exact n2, d :: (ds ++ es), m3, P, iss_cons.mpr ⟨_, vs ++ zs, rfl, (i1.step s2).step s3, (Iss.step s3 _ i2).append i3⟩, o3, h3, hq.step ((s1.trans s2).trans s3)⟩
end
/-! ### making an instance; what it is turned into -/
def Gh (d : D) (m : Mem) (d' : D) (m' : Mem) : Prop := ∀ K H v, MOk K H m → Is K H m d v → MOk K H m' ∧ Is K H m' d' v ∧ ∀ a, m a = none → m' a = none
theorem Gh.refl {d : D} {m : Mem} : Gh d m d m := fun _ _ _ o i => ⟨o, i, fun _ h => h⟩
theorem Gh.step {d d' : D} {m m' : Mem} {K : PySem.W.Frag} {H : Hp} {v : V} (g : Gh d m d' m') (o : MOk K H m) (i : Is K H m d v) : Step H m H m' := ⟨fun a _ h h' => ⟨h, (g K H v o i).2.2 a h'⟩⟩
/-- an instance that will not change any more -/
theorem Gh.obj {a C : Addr} {fs : List (Str × D)} {m : Mem} (h : m a = none) : Gh (.ref a) (mset m a (.ins C fs)) (.obj C (fs.map (·.1)) (fs.map (·.2))) m := by
  intro K H v o i
  have le : Le m (mset m a (.ins C fs)) := Le.refl.new h
  have st : Step H (mset m a (.ins C fs)) H m := le.step
  obtain ⟨dx, gs, h1, h2⟩ := o a _ mset_same
  obtain ⟨vs, e2, i2⟩ := (h2.step st).to_iss
  refine ⟨o.le le, is_obj.mpr ⟨a, dx, vs, is_ref.mp i, by rw [← e2]; exact h1, h, by simp, i2⟩, fun b hb => ?_⟩
  by_cases hba : b = a
  · rw [hba]; exact h
  · rw [mset_ne hba] at hb; exact hb
/-- a list that will not change any more -/
theorem Gh.lst {a : Addr} {ds : List D} {m : Mem} (h : m a = some (.lst ds)) : Gh (.ref a) m (.lst ds) (mdel m a) := by
  intro K H v o i
  have st : Step H m H (mdel m a) := Le.mdel.step
  obtain ⟨vs, h1, h2⟩ := o a _ h
  refine ⟨o.le Le.mdel, is_lst.mpr ⟨a, vs, is_ref.mp i, h1, mdel_same, Iss.step st _ h2⟩, fun b hb => ?_⟩
  by_cases hba : b = a
  · rw [hba, mdel_same]
  · rw [mdel_ne hba]; exact hb
def tMakeG (K : PySem.W.Frag) (C : Addr) (T : PT1) (t : TA) : TE := StX.tMakeR C (SpE K T) E0 t
/-- C(e, ..): __init__ keeps T; what comes is handed on as Gh says -/
def sMake (C : Addr) (T : PT1) (sa : SA) : SE := fun Γ m P => sa Γ m fun ds m1 => ∀ a, m1 a = none → T (.ref a :: ds) (mset m1 a (.ins C [])) fun d m2 => d = .non ∧ ∃ d' m3, Gh (.ref a) m2 d' m3 ∧ P d' m3
section
variable {X : Cx} {k : Nat} {f C : Addr} {T : PT1} {x : Str} {e : Expr} {es : List Expr} {p pos : Pos} {sa : SA}
theorem lift_make {K : PySem.W.Frag} {t : TA} (l : LiftA K t sa) : LiftE K (StX.tMakeR C (SpE K T) E0 t) (sMake C T sa) := by
  intro σ H Γ m P Q hs hm h hq
  refine l σ H Γ m _ _ hs hm h fun ds m1 vs H1 h1 s1 o1 i1 x dx hx hdx hne => ?_
  have st1 : Step H1 m1 (upd H1 dx (.own x)) m1 := Step.new hdx
  have o2 := o1.new (o := .own x) hdx
  have hx2 : upd H1 dx (.own x) x = none := by rw [upd_ne (Ne.symm hne)]; exact hx
  have st2 : Step (upd H1 dx (.own x)) m1 (upd (upd H1 dx (.own x)) x (.ins C dx [])) (mset m1 x (.ins C [])) := Step.newM hx2
  have o3 : MOk K (upd (upd H1 dx (.own x)) x (.ins C dx [])) (mset m1 x (.ins C [])) := o2.newM hx2 ⟨dx, [], upd_same, .nil⟩
  refine ⟨.ref x :: ds, _, _, iss_cons.mpr ⟨_, vs, rfl, is_ref.mpr rfl, Iss.step (st1.trans st2) _ i1⟩, o3, h1 x (o1.free hx), fun d m2 v H2 h2 s2 o4 i2 => ?_⟩
  obtain ⟨rfl, d', m3, gh, h3⟩ := h2
  have ir : Is K H2 m2 (.ref x) (.ref x) := is_ref.mpr rfl
  obtain ⟨g1, g2, _⟩ := gh K H2 (.ref x) o4 ir
  exact ⟨is_non.mp i2, hq d' m3 _ H2 h3 ((((s1.trans st1).trans st2).trans s2).trans (gh.step o4 ir)) g1 g2⟩
theorem le_make (M : Mk X.K C f) (F : FnQ false X.prog X.w X.K X.mg X.base k f T) (hr : Room (k + 1) X.A) (hm : X.mg x = some (.ref C)) (ha : LA X (e :: es) sa) (hg : Gl X x := by rfl) (hdb : (x == ("__debug__" : Str)) = false := by decide)
    (he : starEach (e :: es) X.env = (false, eval e X.env) :: starEach es X.env := by rfl) (hpl : (backTo pos (starEach es X.env)).any (·.1) = false := by rfl) : LE X (.Call (.Name x p) (e :: es) [] pos) (sMake C T sa) := by
  obtain ⟨t, pa, l⟩ := ha
  exact ⟨_, StX.pe_makeR M F.raw hr hg hm pass0 pa hdb he hpl, lift_make l⟩
end
end HB
set_option Elab.async false
set_option linter.all false
set_option maxRecDepth 100000
set_option maxHeartbeats 4000000
/-! statements, loops, fields, subscripts by plain data -/
namespace HB
open PySem L2
/-- the reading that says the least -/
def uE (K : PySem.W.Frag) (s : SE) : TE := fun σ H Q => ∃ Γ m P, Slots K H m σ Γ ∧ MOk K H m ∧ s Γ m P ∧ KE K H m P Q
def uT (K : PySem.W.Frag) (s : ST) : TT := fun σ H Q => ∃ Γ m P, Slots K H m σ Γ ∧ MOk K H m ∧ s Γ m P ∧ KT K H m P Q
def uS (K : PySem.W.Frag) (s : SS) : TS := fun D σ H => ∃ Γ m E, Slots K H m σ Γ ∧ MOk K H m ∧ s E Γ m ∧ KS K H m E D
theorem LE.u {X : Cx} {e : Expr} {s : SE} (h : LE X e s) : PE X e (uE X.K s) := by
  obtain ⟨t, p, l⟩ := h
  exact ⟨fun pins st σ H Q I ⟨Γ, m, P, hs, hm, h, hq⟩ => p.run pins st σ H Q I (l σ H Γ m P Q hs hm h hq)⟩
theorem LT.u {X : Cx} {e : Expr} {s : ST} (h : LT X e s) : PT X e (uT X.K s) := by
  obtain ⟨t, p, l⟩ := h
  exact ⟨fun pins st σ H Q I ⟨Γ, m, P, hs, hm, h, hq⟩ => p.run pins st σ H Q I (l σ H Γ m P Q hs hm h hq)⟩
theorem LSs.u {X : Cx} {b : List Stmt} {s : SS} (h : LSs X b s) : PSs X b (uS X.K s) := by
  obtain ⟨t, p, l⟩ := h
  exact ⟨fun pins st σ H D I ⟨Γ, m, E, hs, hm, h, hq⟩ => p.run pins st σ H D I (l σ H Γ m E D hs hm h hq)⟩
/-! ### blocks -/
section
variable {X : Cx} {st : Stmt} {rest : List Stmt} {s u : SS} {e : Expr} {se : SE} {pos : Pos}
def sNext : SS := fun E Γ m => E.nx Γ m
def sSeq (s u : SS) : SS := fun E Γ m => s { E with nx := u E } Γ m
theorem lss_nil : LSs X [] sNext := ⟨_, pss_nil, fun σ H Γ m E D hs hm h k => k.nx Γ m σ H h Step.refl hm hs⟩
theorem lss_cons (h1 : LS X st s) (h2 : LSs X rest u) : LSs X (st :: rest) (sSeq s u) := by
  obtain ⟨t1, p1, l1⟩ := h1
  obtain ⟨t2, p2, l2⟩ := h2
  refine ⟨_, pss_cons p1 p2, fun σ H Γ m E D hs hm h k => ?_⟩
  refine l1 σ H Γ m { E with nx := u E } { D with nx := t2 D } hs hm h ⟨fun Γ' m' σ' H' q st o sl => ?_, k.rt, k.bk, k.ct⟩
  exact l2 σ' H' Γ' m' E D sl o q (k.step st)
theorem lss_one (h1 : LS X st s) : LSs X [st] s := by
  obtain ⟨t1, p1, l1⟩ := h1
  exact ⟨_, pss_one p1, l1⟩
def sNever : SS := fun _ _ _ => False
theorem ls_never : LS X st sNever := ⟨_, ps_never, fun _ _ _ _ _ _ _ _ h _ => (show False from h).elim⟩
theorem lss_never : LSs X rest sNever := ⟨_, pss_never, fun _ _ _ _ _ _ _ _ h _ => (show False from h).elim⟩
theorem ls_doc {x j pos'} : LS X (.Expr (.Constant (.str x) j pos) pos') sNext := ⟨_, ps_doc, fun σ H Γ m E D hs hm h k => k.nx Γ m σ H h Step.refl hm hs⟩
def sDrop (se : SE) : SS := fun E Γ m => se Γ m fun _ m1 => E.nx Γ m1
theorem ls_expr (he : LE X e se) (hs : swapsWith e none pos.line X.env = pure false := by rfl) : LS X (.Expr e pos) (sDrop se) := by
  obtain ⟨t, p, l⟩ := he
  refine ⟨_, ps_expr p hs, fun σ H Γ m E D hs hm h k => l σ H Γ m _ _ hs hm h fun d m1 v H1 h1 s1 o1 i1 => ?_⟩
  exact k.nx Γ m1 σ H1 h1 s1 o1 (hs.step s1)
def sRet (se : SE) : SS := fun E Γ m => se Γ m E.rt
theorem ls_ret (he : LE X e se) : LS X (.Return (some e) pos) (sRet se) := by
  obtain ⟨t, p, l⟩ := he
  exact ⟨_, ps_ret p, fun σ H Γ m E D hs hm h k => l σ H Γ m E.rt D.rt hs hm h k.rt⟩
def sRetN : SS := fun E _ m => E.rt .non m
theorem ls_retN : LS X (.Return none pos) sRetN := ⟨_, ps_retN, fun σ H Γ m E D hs hm h k => k.rt .non m .non H h Step.refl hm (is_non.mpr rfl)⟩
def sBreak : SS := fun E Γ m => E.bk Γ m
theorem ls_break : LS X (.Break pos) sBreak := ⟨_, ps_break, fun σ H Γ m E D hs hm h k => k.bk Γ m σ H h Step.refl hm hs⟩
def sIf (c : ST) (s u : SS) : SS := fun E Γ m => c Γ m fun k m1 => match k with
  | true => s E Γ m1
  | false => u E Γ m1
theorem ls_if {c : Expr} {a b : List Stmt} {tc : ST} (hc : LT X c tc) (ha : LSs X a s) (hb : LSs X b u) : LS X (.If c a b pos) (sIf tc s u) := by
  obtain ⟨t, p, l⟩ := hc
  obtain ⟨t1, p1, l1⟩ := ha
  obtain ⟨t2, p2, l2⟩ := hb
  refine ⟨_, ps_if p p1 p2, fun σ H Γ m E D hs hm h k => l σ H Γ m _ _ hs hm h fun q m1 H1 h1 s1 o1 => ?_⟩
  cases q with
  | true => exact l1 σ H1 Γ m1 E D (hs.step s1) o1 h1 (k.step s1)
  | false => exact l2 σ H1 Γ m1 E D (hs.step s1) o1 h1 (k.step s1)
/-- a list that a name holds will not change any more -/
def sFreeze (i : Nat) (s : SS) : SS := fun E Γ m => match Γ[i]? with
  | some (some (.ref a)) => ∃ ds, m a = some (.lst ds) ∧ s E (Γ.set i (some (.lst ds))) (mdel m a)
  | _ => False
theorem lss_freeze {b : List Stmt} (i : Nat) (h : LSs X b s) : LSs X b (sFreeze i s) := by
  obtain ⟨t, p, l⟩ := h
  refine ⟨t, p, fun σ H Γ m E D hs hm h k => ?_⟩
  cases q : Γ[i]? with
  | none => simp only [sFreeze, q] at h
  | some o =>
    cases o with
    | none => simp only [sFreeze, q] at h
    | some d =>
      cases d with
      | ref a =>
        simp only [sFreeze, q] at h
        obtain ⟨ds, ha, h⟩ := h
        obtain ⟨v, hv, iv⟩ := hs.get i _ q
        obtain ⟨g1, g2, _⟩ := Gh.lst ha X.K H v hm iv
        have st : Step H m H (mdel m a) := Le.mdel.step
        refine l σ H _ (mdel m a) E D ⟨by rw [List.length_set]; exact hs.len, fun j x e' => ?_⟩ g1 h (k.step st)
        by_cases hj : j = i
        · subst hj
          have hlt : j < Γ.length := (List.getElem?_eq_some_iff.mp q).1
          rw [List.getElem?_set_self hlt] at e'
          cases e'
          exact ⟨v, hv, g2⟩
        · rw [List.getElem?_set_ne (Ne.symm hj)] at e'
          obtain ⟨w, h1, h2⟩ := hs.get j x e'
          exact ⟨w, h1, h2.step st⟩
      | _ => simp only [sFreeze, q] at h
end
/-! ### targets -/
section
variable {X : Cx} {pos pos' : Pos} {e value o i : Expr} {se sv so si : SE} {f : Str}
def gN (i : Nat) : SG := fun d Γ m P => P (Γ.set i (some d)) m
theorem lg_name (i : Nat) {x : Str} (hN : X.N.Nodup) (hi : X.N[i]? = some x := by rfl) (hx : Loc X.env.scope x := by first | exact Or.inl rfl | exact Or.inr rfl) (hf : X.fn x = true ∨ X.env.scope.names.lookup x = some .local := by first | exact .inl rfl | exact .inr rfl) : LG X (.Name x pos) (gN i) :=
  ⟨gName i, pg_name hN hi hx hf, fun σ H Γ m d v P Q hs hm iv h hq => hq _ m _ H h Step.refl hm (hs.set iv)⟩
def gsNil : SGs := fun ds Γ m P => ds = [] ∧ P Γ m
def gsCons (g : SG) (r : SGs) : SGs := fun ds Γ m P => match ds with
  | d :: ds => g d Γ m fun Γ' m' => r ds Γ' m' P
  | [] => False
theorem lgs_nil : LGs X [] gsNil := ⟨gNil, pgs_nil, fun σ H Γ m ds vs P Q hs hm iv h hq => by
  obtain ⟨rfl, h⟩ := h
  exact ⟨iss_nil.mp iv, hq Γ m σ H h Step.refl hm hs⟩⟩
theorem lgs_cons {es : List Expr} {g : SG} {r : SGs} (h1 : LG X e g) (h2 : LGs X es r) (hs : (assignEach (e :: es) X.env).map (·.2) = assign e X.env :: (assignEach es X.env).map (·.2) := by rfl) : LGs X (e :: es) (gsCons g r) := by
  obtain ⟨t, p, l⟩ := h1
  obtain ⟨u, q, l'⟩ := h2
  refine ⟨_, pgs_cons p q hs, fun σ H Γ m ds vs P Q hs hm iv h hq => ?_⟩
  cases ds with
  | nil => exact (show False from h).elim
  | cons d ds =>
    obtain ⟨v, r, rfl, h1, h2⟩ := iss_cons.mp iv
    refine ⟨v, r, rfl, l σ H Γ m d v _ _ hs hm h1 h fun Γ' m' σ' H' h' s' o' sl => ?_⟩
    exact l' σ' H' Γ' m' ds r P Q sl o' (Iss.step s' _ h2) h' (hq.step s')
def gTuple (n : Nat) (g : SGs) : SG := fun d Γ m P => match d with
  | .tup ds => ds.length = n ∧ g ds Γ m P
  | _ => False
theorem lg_tup {es : List Expr} {k : Nat} {g : SGs} {n : Nat} (hc : X.calm = true) (h : LGs X es g) (hn : (assignEach es X.env).length = n := by rfl) (hst : (assignEach es X.env).findIdx? (·.1) = none := by rfl) : LG X (.Tuple es k pos) (gTuple n g) := by
  obtain ⟨t, p, l⟩ := h
  refine ⟨_, pg_tup hc p hn hst, fun σ H Γ m d v P Q hs hm iv h hq => ?_⟩
  cases d with
  | tup ds =>
    obtain ⟨hl, h⟩ := h
    obtain ⟨a, vs, rfl, h1, h2⟩ := is_tup.mp iv
    exact ⟨a, vs, rfl, h1.sq, by rw [h2.length]; exact hl, l σ H Γ m ds vs P Q hs hm h2 h hq⟩
  | _ => exact (show False from h).elim
/-! ### stores -/
def sSet (i : Nat) (se : SE) : SS := fun E Γ m => se Γ m fun d m1 => E.nx (Γ.set i (some d)) m1
theorem ls_set (i : Nat) {x : Str} (hN : X.N.Nodup) (he : LE X e se) (hi : X.N[i]? = some x := by rfl) (hx : Loc X.env.scope x := by first | exact Or.inl rfl | exact Or.inr rfl) (hs : swapsWith e (some (.Name x pos')) pos.line X.env = pure false := by rfl)
    (hf : X.fn x = true ∨ X.env.scope.names.lookup x = some .local := by first | exact .inl rfl | exact .inr rfl) : LS X (.Assign [.Name x pos'] e pos) (sSet i se) := by
  obtain ⟨t, p, l⟩ := he
  refine ⟨_, ps_set hN hi hx p hs hf, fun σ H Γ m E D hs hm h k => l σ H Γ m _ _ hs hm h fun d m1 v H1 h1 s1 o1 i1 => ?_⟩
  exact k.nx _ m1 _ H1 h1 s1 o1 ((hs.step s1).set i1)
theorem FsR.put {K : PySem.W.Frag} {H : Hp} {m : Mem} {d : D} {v : V} (iv : Is K H m d v) : ∀ {fs : List (Str × D)} {gs : List (Str × V)}, FsR K H m fs gs → FsR K H m (putD f d fs) (putF f v gs)
  | _, _, .nil => .cons ⟨rfl, iv⟩ .nil
  | (n, x) :: fs, (n', y) :: gs, .cons ⟨e1, r⟩ t => by
    have e1' : n = n' := e1
    subst e1'
    unfold putD putF
    by_cases q : n = f
    · rw [if_pos q, if_pos q]; exact .cons ⟨rfl, iv⟩ t
    · rw [if_neg q, if_neg q]; exact .cons ⟨rfl, r⟩ (FsR.put iv t)
/-- o.f = e -/
def sFldSet (G : Addr → Prop) (f : Str) (so sv : SE) : SS := fun E Γ m => sv Γ m fun y m1 => so Γ m1 fun d m2 => ∃ a C fs, d = .ref a ∧ m2 a = some (.ins C fs) ∧ G C ∧ fs.length < 900 ∧ E.nx Γ (mset m2 a (.ins C (putD f y fs)))
theorem ls_fld {G : Addr → Prop} (hG : ∀ C, G C → Cls X.K C ∧ NoAttr X.K C f) (ho : LE X o so) (hv : LE X value sv) (hs : swapsWith value (some (.Attribute o f pos')) pos.line X.env = pure false := by rfl) : LS X (.Assign [.Attribute o f pos'] value pos) (sFldSet G f so sv) := by
  obtain ⟨t, p, l⟩ := ho
  obtain ⟨u, q, l'⟩ := hv
  refine ⟨_, ps_fld p q hs, fun σ H Γ m E D hs hm h k => ?_⟩
  refine l' σ H Γ m _ _ hs hm h fun y m1 vy H1 h1 s1 o1 i1 => ?_
  refine l σ H1 Γ m1 _ _ (hs.step s1) o1 h1 fun d m2 v H2 h2 s2 o2 i2 => ?_
  obtain ⟨a, C, fs, rfl, ha, hg, hl, h2⟩ := h2
  obtain ⟨dx, gs, e1, r1⟩ := o2 a _ ha
  have hl' : fs.length = gs.length := Paired.length r1
  refine ⟨a, C, dx, gs, is_ref.mp i2, e1, (hG C hg).1, (hG C hg).2, by omega, ?_⟩
  have st : Step H2 m2 (upd H2 a (.ins C dx (putF f vy gs))) (mset m2 a (.ins C (putD f y fs))) := Step.wr ha
  refine k.nx _ _ _ _ h2 ((s1.trans s2).trans st) (o2.wr ha ⟨dx, _, upd_same, ?_⟩) (((hs.step s1).step s2).step st)
  exact FsR.put ((i1.step s2).step st) (r1.step st)
/-- o[i] = e, o a list -/
def sSubSet (so si sv : SE) : SS := fun E Γ m => sv Γ m fun y m1 => so Γ m1 fun d m2 => si Γ m2 fun ix m3 => ∃ a ds j, d = .ref a ∧ ix = .int (j : Nat) ∧ m3 a = some (.lst ds) ∧ j < ds.length ∧ E.nx Γ (mset m3 a (.lst (ds.set j y)))
theorem ixN_nat {n j : Nat} (hj : j < n) : ixN n (j : Int) = some j := by
  unfold ixN
  rw [if_pos (by omega), if_pos (by omega)]
  simp
theorem ls_sub (ho : LE X o so) (hi : LE X i si) (hv : LE X value sv) (hs : swapsWithSole [.Subscript o i pos'] value pos.line X.env = pure false := by rfl) (hw : swappedStores [.Subscript o i pos'] value X.env = pure none := by rfl)
    (h1 : (assignEach [.Subscript o i pos'] X.env).map (·.2) = [assign (.Subscript o i pos') X.env] := by rfl)
    (ha : ∀ v, assign (.Subscript o i pos') X.env v = (do
      let ov ← holding [v] (eval o X.env)
      let iv ← holding [v, ov] (eval i X.env)
      standAt pos'
      holding [v, ov, iv] (setItem ov iv v)
      release [v, ov, iv] []) := by intro _; rfl) : LS X (.Assign [.Subscript o i pos'] value pos) (sSubSet so si sv) := by
  obtain ⟨t, p, l⟩ := ho
  obtain ⟨t2, p2, l2⟩ := hi
  obtain ⟨u, q, l'⟩ := hv
  refine ⟨_, ps_asg q (pg_sub p p2 set_list ha) hs hw h1, fun σ H Γ m E D hs hm h k => ?_⟩
  refine l' σ H Γ m _ _ hs hm h fun y m1 vy H1 h1 s1 o1 i1 => ?_
  refine l σ H1 Γ m1 _ _ (hs.step s1) o1 h1 fun d m2 v H2 h2 s2 o2 i2 => ?_
  refine l2 σ H2 Γ m2 _ _ ((hs.step s1).step s2) o2 h2 fun x m3 w H3 h3 s3 o3 i3 => ?_
  obtain ⟨a, ds, j, rfl, rfl, ha, hj, h3⟩ := h3
  obtain ⟨vs, e1, r1⟩ := o3 a _ ha
  refine ⟨a, vs, j, j, is_ref.mp i2, is_int.mp i3, e1, ixN_nat (by rw [r1.length]; exact hj), ?_⟩
  have st : Step H3 m3 (upd H3 a (.lst (vs.set j vy))) (mset m3 a (.lst (ds.set j y))) := Step.wr ha
  refine k.nx _ _ _ _ h3 (((s1.trans s2).trans s3).trans st) (o3.wr ha ⟨_, upd_same, ?_⟩) ((((hs.step s1).step s2).step s3).step st)
  exact Iss.set j (Iss.step st _ r1) (((i1.step s2).step s3).step st)
/-- d[k] = e, k a text -/
def sDictSet (so si sv : SE) : SS := fun E Γ m => sv Γ m fun y m1 => so Γ m1 fun d m2 => si Γ m2 fun x m3 => ∃ a kvs z, d = .ref a ∧ x = .str z ∧ m3 a = some (.dic kvs) ∧ (kvs.map (·.1)).Nodup ∧ kvs.length < 900 ∧ E.nx Γ (mset m3 a (.dic (putD z y kvs)))
theorem valV_none {z : Str} : ∀ {kvs : List (Str × D)} {gs : List (Key × V)} {K : PySem.W.Frag} {H : Hp} {m : Mem}, KsR K H m kvs gs → (∀ p ∈ kvs, p.1 ≠ z) → valV gs (Sum.inr z) = none
  | _, _, _, _, _, .nil, _ => rfl
  | (n, d) :: kvs, (n', v) :: gs, K, H, m, .cons ⟨e1, r⟩ t, h => by
    have e1' : n' = Sum.inr n := e1
    subst e1'
    rw [valV_neg (fun q => h _ List.mem_cons_self (Sum.inr.inj q))]
    exact valV_none t fun p hp => h p (List.mem_cons_of_mem _ hp)
theorem KsR.get {K : PySem.W.Frag} {H : Hp} {m : Mem} {z : Str} : ∀ {kvs : List (Str × D)} {gs : List (Key × V)} {d : D}, KsR K H m kvs gs → kvs.lookup z = some d → ∃ v, valV gs (Sum.inr z) = some v ∧ Is K H m d v
  | _, _, _, .nil, e => by simp at e
  | (n, x) :: kvs, (n', v) :: gs, d, .cons ⟨e1, r⟩ t, e => by
    have e1' : n' = Sum.inr n := e1
    subst e1'
    rw [List.lookup_cons] at e
    cases q : (z == n) with
    | true =>
      rw [q] at e; cases e
      exact ⟨v, valV_pos (by rw [beq_iff_eq.mp q]), r⟩
    | false =>
      rw [q] at e
      have hne : ¬ (Sum.inr n : Key) = Sum.inr z := fun w => by
        rw [Sum.inr.inj w, beq_self_eq_true] at q; cases q
      rw [valV_neg hne]
      exact KsR.get t e
theorem putD_new {z : Str} {y : D} : ∀ {kvs : List (Str × D)}, (∀ p ∈ kvs, p.1 ≠ z) → putD z y kvs = kvs ++ [(z, y)]
  | [], _ => rfl
  | (n, x) :: r, h => by
    unfold putD
    rw [if_neg (h _ List.mem_cons_self), putD_new fun p hp => h p (List.mem_cons_of_mem _ hp)]
    rfl
theorem KsR.snoc {K : PySem.W.Frag} {H : Hp} {m : Mem} {z : Str} {d : D} {v : V} (iv : Is K H m d v) : ∀ {kvs : List (Str × D)} {gs : List (Key × V)}, KsR K H m kvs gs → KsR K H m (kvs ++ [(z, d)]) (gs ++ [(Sum.inr z, v)])
  | _, _, .nil => .cons ⟨rfl, iv⟩ .nil
  | _ :: _, _ :: _, .cons r t => .cons r (KsR.snoc iv t)
theorem KsR.mapped {K : PySem.W.Frag} {H : Hp} {m : Mem} {z : Str} {d : D} {v : V} (iv : Is K H m d v) : ∀ {kvs : List (Str × D)} {gs : List (Key × V)}, KsR K H m kvs gs → (kvs.map (·.1)).Nodup → (∃ p ∈ kvs, p.1 = z) → KsR K H m (putD z d kvs) (gs.map fun kv => if kv.1 = Sum.inr z then (kv.1, v) else kv)
  | _, _, .nil, _, h => by obtain ⟨p, hp, _⟩ := h; cases hp
  | (n, x) :: kvs, (n', w) :: gs, .cons ⟨e1, r⟩ t, nd, h => by
    have e1' : n' = Sum.inr n := e1
    subst e1'
    rw [List.map_cons, List.nodup_cons] at nd
    unfold putD
    by_cases q : n = z
    · subst q
      rw [if_pos rfl, List.map_cons, if_pos rfl]
      refine .cons ⟨rfl, iv⟩ ?_
      have keep : ∀ {kvs : List (Str × D)} {gs : List (Key × V)}, KsR K H m kvs gs → n ∉ kvs.map (·.1) → (gs.map fun kv => if kv.1 = Sum.inr n then (kv.1, v) else kv) = gs := by
        intro kvs gs t
        induction t with
        | nil => intro _; rfl
        | @cons p q ps qs r t ih =>
          intro hn
          rw [List.map_cons, List.mem_cons] at hn
          rw [List.map_cons, if_neg (fun e => hn (.inl (Sum.inr.inj (e.symm.trans r.1)))), ih fun e => hn (.inr e)]
      rw [keep t nd.1]
      exact t
    · rw [if_neg q, List.map_cons, if_neg (fun e => q (Sum.inr.inj e))]
      refine .cons ⟨rfl, r⟩ (KsR.mapped iv t nd.2 ?_)
      obtain ⟨p, hp, e⟩ := h
      rcases List.mem_cons.mp hp with e' | hp
      · subst e'; exact absurd e q
      · exact ⟨p, hp, e⟩
theorem KsR.put {K : PySem.W.Frag} {H : Hp} {m : Mem} {z : Str} {d : D} {v : V} (iv : Is K H m d v) {kvs : List (Str × D)} {gs : List (Key × V)} (h : KsR K H m kvs gs) (nd : (kvs.map (·.1)).Nodup) : KsR K H m (putD z d kvs) (putK gs (Sum.inr z) v) := by
  by_cases q : ∃ p ∈ kvs, p.1 = z
  · have z2 := h.mapped (v := v) iv nd q
    obtain ⟨p, hp, e⟩ := q
    have hl : ∃ x, kvs.lookup z = some x := by
      cases w : kvs.lookup z with
      | some x => exact ⟨x, rfl⟩
      | none =>
        exfalso
        have : ∀ l : List (Str × D), p ∈ l → l.lookup z ≠ none := by
          intro l
          induction l with
          | nil => intro hp; cases hp
          | cons a l ih =>
            intro hp
            rw [List.lookup_cons]
            rcases List.mem_cons.mp hp with e' | hp
            · rw [← e', e, beq_self_eq_true]; simp
            · cases (z == a.1) with
              | true => simp
              | false => exact ih hp
        exact this kvs hp w
    obtain ⟨x, hx⟩ := hl
    obtain ⟨w, hw, _⟩ := h.get hx
    have ha : (gs.any fun kv => decide (kv.1 = (Sum.inr z : Key))) = true := by rw [valV_any, hw]; rfl
    unfold putK
    rw [if_pos ha]
    exact z2
  · have hn : ∀ p ∈ kvs, p.1 ≠ z := fun p hp e => q ⟨p, hp, e⟩
    rw [putD_new hn, putK_new _ (valV_none h hn)]
    exact h.snoc iv
theorem ls_dput (hu : X.A.units + 1 < cLine) (ho : LE X o so) (hi : LE X i si) (hv : LE X value sv) (hs : swapsWith value (some (.Subscript o i pos')) pos.line X.env = pure false := by rfl) :
    LS X (.Assign [.Subscript o i pos'] value pos) (sDictSet so si sv) := by
  obtain ⟨t, p, l⟩ := ho
  obtain ⟨t2, p2, l2⟩ := hi
  obtain ⟨u, q, l'⟩ := hv
  refine ⟨_, ps_dput hu p p2 q hs, fun σ H Γ m E D hs hm h k => ?_⟩
  refine l' σ H Γ m _ _ hs hm h fun y m1 vy H1 h1 s1 o1 i1 => ?_
  refine l σ H1 Γ m1 _ _ (hs.step s1) o1 h1 fun d m2 v H2 h2 s2 o2 i2 => ?_
  refine l2 σ H2 Γ m2 _ _ ((hs.step s1).step s2) o2 h2 fun x m3 w H3 h3 s3 o3 i3 => ?_
  obtain ⟨a, kvs, z, rfl, rfl, ha, nd, hl, h3⟩ := h3
  obtain ⟨gs, e1, r1⟩ := o3 a _ ha
  have hl' : kvs.length = gs.length := Paired.length r1
  have st : Step H3 m3 (upd H3 a (.dK (putK gs (Sum.inr z) vy))) (mset m3 a (.dic (putD z y kvs))) := Step.wr ha
  obtain rfl := is_str.mp i3
  refine ⟨a, _, is_ref.mp i2, DPut.k (k := Sum.inr z) e1 (by rw [← hl']; exact Nat.lt_of_lt_of_le hl (by decide)), ?_⟩
  · refine k.nx _ _ _ _ h3 (((s1.trans s2).trans s3).trans st) (o3.wr ha ⟨_, upd_same, ?_⟩) ((((hs.step s1).step s2).step s3).step st)
    exact KsR.put (((i1.step s2).step s3).step st) (r1.step st) nd
/-- x += e, ints -/
def sAugI (f : Int → Int → Int) (i : Nat) (se : SE) : SS := fun E Γ m => ∃ a, Γ[i]? = some (some (.int a)) ∧ se Γ m fun d m1 => match d with
  | .int b => E.nx (Γ.set i (some (.int (f a b)))) m1
  | _ => False
theorem ls_augadd (i : Nat) {x : Str} (hN : X.N.Nodup) (he : LE X e se) (hi : X.N[i]? = some x := by rfl) (hx : Loc X.env.scope x := by first | exact Or.inl rfl | exact Or.inr rfl) (hf : X.fn x = true ∨ X.env.scope.names.lookup x = some .local := by first | exact .inl rfl | exact .inr rfl) :
    LS X (.AugAssign (.Name x pos') .Add e pos) (sAugI (fun a b => a + b) i se) := by
  obtain ⟨t, p, l⟩ := he
  refine ⟨_, ps_aug hN hi hx p ip_add hf, fun σ H Γ m E D hs hm h k => ?_⟩
  obtain ⟨a, ha, h⟩ := h
  obtain ⟨v, e1, iv⟩ := hs.get i _ ha
  refine ⟨v, e1, l σ H Γ m _ _ hs hm h fun d m1 w H1 h1 s1 o1 i1 => ?_⟩
  cases d with
  | int b => exact ⟨a, b, is_int.mp iv, is_int.mp i1, k.nx _ m1 _ H1 h1 s1 o1 ((hs.step s1).set (is_int.mpr rfl))⟩
  | _ => exact (show False from h1).elim
end
end HB
set_option Elab.async false
set_option linter.all false
set_option maxRecDepth 100000
set_option maxHeartbeats 4000000
/-! loops and comprehensions by plain data -/
namespace HB
open PySem L2
/-- what an iterator gives, from (H0, m0) on, while ok holds of the memory -/
structure Wk (K : PySem.W.Frag) (H0 : Hp) (m0 : Mem) (J : It) (n : Nat) (item : Nat → D) (ok : Mem → Prop) : Prop where
  goes : ∀ i H m, i < n → Step H0 m0 H m → MOk K H m → ok m → J.go i H
  stops : ∀ H m, Step H0 m0 H m → MOk K H m → ok m → J.stop n H
  yields : ∀ i H m x H', i < n → Step H0 m0 H m → MOk K H m → ok m → J.yld i H x H' → Step H m H' m ∧ MOk K H' m ∧ Is K H' m (item i) x
abbrev PI1 := Nat → (Nat → D) → (Mem → Prop) → Mem → Prop
abbrev SI := GEnv → Mem → PI1 → Prop
def LiftI (K : PySem.W.Frag) (wi : TI) (s : SI) : Prop := ∀ (σ : St) (H : Hp) (Γ : GEnv) (m : Mem) (P : PI1) (Q : It → Hp → Prop), Slots K H m σ Γ → MOk K H m → s Γ m P →
  (∀ n item ok m' H' J, P n item ok m' → Step H m H' m' → MOk K H' m' → Wk K H' m' J n item ok → Q J H') → wi σ H Q
def LI (X : Cx) (tg iter : Expr) (s : SI) : Prop := ∃ wi, PI X tg iter wi ∧ LiftI X.K wi s
/-! ### for -/
def sFor (si : SI) (g : SG) (b : SS) : SS := fun E Γ m => si Γ m fun n item ok m1 => ∃ Pv : Nat → GEnv → Mem → Prop, Pv 0 Γ m1 ∧ (∀ i Γ m, i ≤ n → Pv i Γ m → ok m) ∧
  (∀ i Γ m, i < n → Pv i Γ m → g (item i) Γ m (b { E with nx := Pv (i + 1), ct := Pv (i + 1), bk := E.nx })) ∧ ∀ Γ m, Pv n Γ m → E.nx Γ m
section
variable {X : Cx} {tg iter : Expr} {body : List Stmt} {si : SI} {g : SG} {b : SS} {pos : Pos}
theorem ls_for (hp : PySem.PassesOwn (model X.prog X.w) X.A X.env X.xe) (hc : X.calm = true) (hi : LI X tg iter si) (hg : LG X tg g) (hb : LSs X body b)
    (hs : ∀ x, foldedSetIterable iter X.env x = pure x := by intro _; rfl) : LS X (.For tg iter body [] pos) (sFor si g b) := by
  obtain ⟨wi, pi, li⟩ := hi
  obtain ⟨tg', pg, lg⟩ := hg
  obtain ⟨tb, pb, lb⟩ := hb
  refine ⟨_, ps_for hp hc pi pg pb hs, fun σ H Γ m E D hs hm h k => ?_⟩
  refine li σ H Γ m _ _ hs hm h fun n item ok m1 H1 J h1 s1 o1 wk => ?_
  obtain ⟨Pv, p0, pok, pst, pend⟩ := h1
  refine ⟨fun i q σ' H' => q = n - i ∧ i ≤ n ∧ ∃ Γ' m', Pv i Γ' m' ∧ Step H1 m1 H' m' ∧ MOk X.K H' m' ∧ Slots X.K H' m' σ' Γ', ⟨n, by simp, Nat.zero_le _, Γ, m1, p0, Step.refl, o1, hs.step s1⟩, ?_⟩
  rintro i q σ' H' ⟨rfl, hi, Γ', m', hP, st, om, sl⟩
  have hok := pok i Γ' m' hi hP
  by_cases hlt : i < n
  · refine .inr ⟨wk.goes i H' m' hlt st om hok, fun σ2 H2 => ∃ Γ2 m2, Pv (i + 1) Γ2 m2 ∧ Step H1 m1 H2 m2 ∧ MOk X.K H2 m2 ∧ Slots X.K H2 m2 σ2 Γ2, fun σ2 H2 ⟨Γ2, m2, h2⟩ => ⟨n - (i + 1), by omega, rfl, hlt, Γ2, m2, h2⟩, fun x H2 y => ?_⟩
    obtain ⟨st2, om2, ix⟩ := wk.yields i H' m' x H2 hlt st om hok y
    refine lg σ' H2 Γ' m' (item i) x _ _ (sl.step st2) om2 ix (pst i Γ' m' hlt hP) fun Γ3 m3 σ3 H3 h3 s3 o3 sl3 => ?_
    have ac : Step H m H3 m3 := ((s1.trans st).trans st2).trans s3
    have again : KN X.K H3 m3 (Pv (i + 1)) (fun σ2 H2 => ∃ Γ2 m2, Pv (i + 1) Γ2 m2 ∧ Step H1 m1 H2 m2 ∧ MOk X.K H2 m2 ∧ Slots X.K H2 m2 σ2 Γ2) :=
      fun Γ4 m4 σ4 H4 h4 s4 o4 sl4 => ⟨Γ4, m4, h4, ((st.trans st2).trans s3).trans s4, o4, sl4⟩
    exact lb σ3 H3 Γ3 m3 _ _ sl3 o3 h3 ⟨again, k.rt.step ac, k.nx.step ac, again⟩
  · have e : i = n := by omega
    subst e
    exact .inl ⟨wk.stops H' m' st om hok, k.nx Γ' m' σ' H' (pend Γ' m' hP) (s1.trans st) om sl⟩
end
/-! ### what is walked -/
def dget (ds : List D) (i : Nat) : D := ds.getD i .non
theorem Iss.at {K : PySem.W.Frag} {H : Hp} {m : Mem} {ds : List D} {vs : List V} {i : Nat} {x : V} (h : Iss K H m ds vs) (e : vs[i]? = some x) : Is K H m (dget ds i) x := by
  obtain ⟨d, h1, h2⟩ := h.getV e
  unfold dget
  rw [List.getD_eq_getElem?_getD, h1]
  exact h2
/-- a list: of the memory, or not changing -/
def iLst (s : SE) : SI := fun Γ m P => s Γ m fun d m1 => ∃ ds, asL m1 d ds ∧ P ds.length (dget ds) (fun m => asL m d ds) m1
def iTp (s : SE) : SI := fun Γ m P => s Γ m fun d m1 => ∃ ds, asT d ds ∧ P ds.length (dget ds) (fun _ => True) m1
def iStrD (s : SE) : SI := fun Γ m P => s Γ m fun d m1 => ∃ z : Str, d = .str z ∧ P z.cps.size (fun i => .str ⟨#[z.cps.getD i 0]⟩) (fun _ => True) m1
def iRange (s : SA) : SI := fun Γ m P => s Γ m fun ds m1 => ∃ n : Nat, ds = [.int n] ∧ n ≤ 1000000 ∧ P n (fun i => .int i) (fun _ => True) m1
def iEnumL (s : SA) : SI := fun Γ m P => s Γ m fun es m1 => ∃ d ds, es = [d] ∧ asL m1 d ds ∧ P ds.length (fun i => .tup [.int i, dget ds i]) (fun m => asL m d ds) m1
section
variable {X : Cx} {tg e : Expr} {es : List Expr} {s : SE} {p pos : Pos}
theorem asL_inj {m : Mem} {d : D} {ds es : List D} (h : asL m d ds) (h' : asL m d es) : ds = es := by
  cases d with
  | lst xs => rw [show ds = xs from h, show es = xs from h']
  | ref a =>
    have h : m a = some (.lst ds) := h
    have h' : m a = some (.lst es) := h'
    rw [h] at h'; cases h'; rfl
  | _ => exact (show False from h).elim
/-- what a datum says of a list's object later on -/
theorem list_later {K : PySem.W.Frag} {H : Hp} {m : Mem} {d : D} {ds : List D} {v : V} (o : MOk K H m) (h : asL m d ds) (i : Is K H m d v) : ∃ a, v = .ref a ∧ ∀ H' m', Step H m H' m' → MOk K H' m' → asL m' d ds → ∃ vs, H' a = some (.lst vs) ∧ Iss K H' m' ds vs := by
  obtain ⟨a, vs, rfl, h1, h2⟩ := asL_ok o h i
  refine ⟨a, rfl, fun H' m' st o' h' => ?_⟩
  obtain ⟨b, ws, e, h3, h4⟩ := asL_ok o' h' (i.step st)
  cases e
  exact ⟨ws, h3, h4⟩
theorem SqL.inj {K : PySem.W.Frag} {H : Hp} {a : Addr} {vs ws : List V} (h : H a = some (.lst vs)) (h' : ∀ xs, SqL K H a xs → xs = ws) : vs = ws := h' vs (SqL.of h)
theorem li_list (h : LE X e s) : LI X tg e (iLst s) := by
  obtain ⟨t, pt, l⟩ := h
  refine ⟨_, pi_list pt, fun σ H Γ m P Q hs hm h hq => ?_⟩
  refine l σ H Γ m _ _ hs hm h fun d m1 v H1 h1 s1 o1 i1 => ?_
  obtain ⟨ds, hd, h1⟩ := h1
  obtain ⟨a, rfl, lat⟩ := list_later o1 hd i1
  obtain ⟨vs, hv, _⟩ := lat H1 m1 Step.refl o1 hd
  refine ⟨a, rfl, ⟨vs, SqL.of hv⟩, hq _ _ _ m1 H1 _ h1 s1 o1 ⟨fun i H' m' hi st o' ok => ?_, fun H' m' st o' ok => ?_, fun i H' m' x H2 hi st o' ok y => ?_⟩⟩
  · obtain ⟨ws, h3, h4⟩ := lat H' m' st o' ok
    have hl := h4.length
    exact ⟨ws, ws[i]'(by omega), SqL.of h3, by simp [show i < ws.length by omega]⟩
  · obtain ⟨ws, h3, h4⟩ := lat H' m' st o' ok
    exact ⟨ws, SqL.of h3, by rw [h4.length]; exact Nat.le_refl _⟩
  · obtain ⟨ws, h3, h4⟩ := lat H' m' st o' ok
    obtain ⟨rfl, y⟩ := y
    exact ⟨Step.refl, o', h4.at (y ws (SqL.of h3))⟩
theorem li_tup (h : LE X e s) : LI X tg e (iTp s) := by
  obtain ⟨t, pt, l⟩ := h
  refine ⟨_, pi_tup pt, fun σ H Γ m P Q hs hm h hq => ?_⟩
  refine l σ H Γ m _ _ hs hm h fun d m1 v H1 h1 s1 o1 i1 => ?_
  obtain ⟨ds, hd, h1⟩ := h1
  cases d with
  | tup es =>
    obtain rfl : ds = es := hd
    obtain ⟨a, vs, rfl, ha, iv⟩ := is_tup.mp i1
    refine ⟨a, rfl, ⟨vs, ha.sq⟩, hq _ _ _ m1 H1 _ h1 s1 o1 ⟨fun i H' m' hi st o' ok => ?_, fun H' m' st o' ok => ?_, fun i H' m' x H2 hi st o' ok y => ?_⟩⟩
    · have hl := iv.length
      exact ⟨vs, vs[i]'(by omega), (ha.step st).sq, by simp [show i < vs.length by omega]⟩
    · exact ⟨vs, (ha.step st).sq, by rw [iv.length]; exact Nat.le_refl _⟩
    · obtain ⟨rfl, y⟩ := y
      exact ⟨Step.refl, o', (Iss.step st _ iv).at (y vs (ha.step st).sq)⟩
  | _ => exact (show False from hd).elim
theorem li_str (h : LE X e s) : LI X tg e (iStrD s) := by
  obtain ⟨t, pt, l⟩ := h
  refine ⟨_, pi_str pt, fun σ H Γ m P Q hs hm h hq => ?_⟩
  refine l σ H Γ m _ _ hs hm h fun d m1 v H1 h1 s1 o1 i1 => ?_
  obtain ⟨z, rfl, h1⟩ := h1
  obtain rfl := is_str.mp i1
  refine ⟨z, rfl, hq _ _ _ m1 H1 _ h1 s1 o1 ⟨fun i H' m' hi st o' ok => hi, fun H' m' st o' ok => Nat.le_refl _, fun i H' m' x H2 hi st o' ok y => ?_⟩⟩
  obtain ⟨rfl, c, hc, rfl⟩ := y
  refine ⟨Step.refl, o', is_str.mpr ?_⟩
  have : z.cps.getD i 0 = c := by
    rw [Array.getD_eq_getD_getElem?, hc]; rfl
  rw [this]
theorem li_range {a : Expr} {sa : SA} (hg : Gl X "range") (hm : X.mg "range" = none) (ha : LA X [a] sa) (hs : starEach [a] X.env = [(false, eval a X.env)] := by rfl) : LI X tg (.Call (.Name "range" p) [a] [] pos) (iRange sa) := by
  obtain ⟨t, pt, l⟩ := ha
  refine ⟨_, pi_range1 hg hm pt hs, fun σ H Γ m P Q hs hm h hq => ?_⟩
  refine l σ H Γ m _ _ hs hm h fun ds m1 vs H1 h1 s1 o1 i1 => ?_
  obtain ⟨n, rfl, hn, h1⟩ := h1
  obtain ⟨v, r, rfl, iv, ir⟩ := iss_cons.mp i1
  obtain rfl := iss_nil.mp ir
  obtain rfl := is_int.mp iv
  refine ⟨n, rfl, by omega, by omega, ?_⟩
  rw [Int.toNat_natCast]
  refine hq _ _ _ m1 H1 _ h1 s1 o1 ⟨fun i H' m' hi st o' ok => hi, fun H' m' st o' ok => Nat.le_refl _, fun i H' m' x H2 hi st o' ok y => ?_⟩
  obtain ⟨rfl, rfl⟩ := y
  exact ⟨Step.refl, o', is_int.mpr (by rw [Int.zero_add])⟩
theorem newPair {K : PySem.W.Frag} {H : Hp} {m : Mem} {dx dy : D} {x y : V} {T : Addr} (o : MOk K H m) (hT : H T = none) (ix : Is K H m dx x) (iy : Is K H m dy y) :
    Step H m (upd H T (.tup [x, y])) m ∧ MOk K (upd H T (.tup [x, y])) m ∧ Is K (upd H T (.tup [x, y])) m (.tup [dx, dy]) (.ref T) :=
  ⟨Step.new hT, o.new hT, newTup o hT (iss_cons.mpr ⟨_, _, rfl, ix, Iss.one iy⟩)⟩
theorem li_enumL {elts : List Expr} {kk : Nat} {tpos : Pos} {sa : SA} (hg : Gl X "enumerate") (hm : X.mg "enumerate" = none) (ha : LA X [e] sa) (hs : starEach [e] X.env = [(false, eval e X.env)] := by rfl) :
    LI X (.Tuple elts kk tpos) (.Call (.Name "enumerate" p) [e] [] pos) (iEnumL sa) := by
  obtain ⟨t, pt, l⟩ := ha
  refine ⟨_, pi_enum hg hm pt hs, fun σ H Γ m P Q hs hm h hq => ?_⟩
  refine l σ H Γ m _ _ hs hm h fun es m1 vs H1 h1 s1 o1 i1 => ?_
  obtain ⟨d, ds, rfl, hd, h1⟩ := h1
  obtain ⟨v, r, rfl, iv, ir⟩ := iss_cons.mp i1
  obtain rfl := iss_nil.mp ir
  obtain ⟨a, rfl, lat⟩ := list_later o1 hd iv
  obtain ⟨vs, hv, _⟩ := lat H1 m1 Step.refl o1 hd
  refine ⟨a, vs, rfl, SqL.of hv, hq _ _ _ m1 H1 _ h1 s1 o1 ⟨fun i H' m' hi st o' ok => ?_, fun H' m' st o' ok => ?_, fun i H' m' x H2 hi st o' ok y => ?_⟩⟩
  · obtain ⟨ws, h3, h4⟩ := lat H' m' st o' ok
    have hl := h4.length
    exact ⟨ws, ws[i]'(by omega), SqL.of h3, by simp [show i < ws.length by omega]⟩
  · obtain ⟨ws, h3, h4⟩ := lat H' m' st o' ok
    exact ⟨ws, SqL.of h3, by rw [h4.length]; exact Nat.le_refl _⟩
  · obtain ⟨ws, h3, h4⟩ := lat H' m' st o' ok
    obtain ⟨T, x, rfl, hT, rfl, y⟩ := y
    exact newPair o' hT (is_int.mpr rfl) (h4.at (y ws (SqL.of h3)))
end
/-! ### comprehensions whose tests and items change nothing -/
def wipeG (Γ : GEnv) : List Nat → GEnv
  | [] => Γ
  | v :: vs => (wipeG Γ vs).set v none
theorem Slots.unset {K : PySem.W.Frag} {H : Hp} {m : Mem} {σ : St} {Γ : GEnv} (h : Slots K H m σ Γ) (v : Nat) : Slots K H m (σ.set v none) (Γ.set v none) := by
  refine ⟨by rw [List.length_set, List.length_set]; exact h.len, fun i d e => ?_⟩
  by_cases hj : v = i
  · subst hj
    exfalso
    by_cases hlt : v < Γ.length
    · rw [List.getElem?_set_self hlt] at e; cases e
    · rw [List.getElem?_eq_none (by rw [List.length_set]; omega)] at e; cases e
  · rw [List.getElem?_set_ne hj] at e ⊢
    exact h.get i d e
theorem Slots.wipe {K : PySem.W.Frag} {H : Hp} {m : Mem} {σ : St} {Γ : GEnv} (h : Slots K H m σ Γ) : ∀ vs : List Nat, Slots K H m (L2.wipe σ vs) (wipeG Γ vs)
  | [] => h
  | v :: vs => (Slots.wipe h vs).unset v
/-- [elt for x in .. if t]: x in slot j -/
def sLc (si : SI) (t : ST) (se : SE) (j : Nat) : SE := fun Γ m P => si Γ m fun n item ok m1 => ∃ (kp : Nat → Bool) (f : Nat → D), n ≤ 1000000 ∧
  (∀ i a out, i < n → m1 a = none → ok (mset m1 a (.lst out)) ∧ t ((Γ.set j none).set j (some (item i))) (mset m1 a (.lst out)) fun b m2 => m2 = mset m1 a (.lst out) ∧ b = kp i ∧
    (b = true → se ((Γ.set j none).set j (some (item i))) (mset m1 a (.lst out)) fun d m3 => m3 = mset m1 a (.lst out) ∧ d = f i)) ∧
  (∀ a out, m1 a = none → ok (mset m1 a (.lst out))) ∧ P (.lst (((List.range n).filter kp).map f)) m1
def tAll : ST := fun _ m P => P true m
theorem lift_tAll {K : PySem.W.Frag} : LiftT K tYes tAll := fun _ H _ m _ _ _ hm h hq => hq true m H h Step.refl hm
theorem uT_all {K : PySem.W.Frag} {σ : St} {H : Hp} {Γ : GEnv} {m : Mem} {P : Bool → Mem → Prop} {Q : Bool → Hp → Prop} {s : ST} (hs : Slots K H m σ Γ) (hm : MOk K H m) (h : s Γ m P) (hq : KT K H m P Q) : uT K s σ H Q := ⟨Γ, m, P, hs, hm, h, hq⟩
theorem pts_all {X : Cx} : PTs X [] (uT X.K tAll) := ⟨fun pins s σ H Q I ⟨Γ, m, P, hs, hm, h, hq⟩ => wpAny_tests_nil ⟨H, I, hq true m H h Step.refl hm⟩⟩
section
variable {X : Cx} {elt iter : Expr} {x : Str} {xp pos : Pos} {ifs : List Expr} {scope : Scope} {j : Nat} {si : SI} {st : ST} {se : SE}
theorem lift_lc {K : PySem.W.Frag} {wi : TI} (l : LiftI K wi si) : LiftE K (tLc wi (gName j) (uT K st) (uE K se) [j]) (sLc si st se j) := by
  intro σ H Γ m P Q hs hm h hq
  refine l σ H Γ m _ _ hs hm h fun n item ok m1 H1 J h1 s1 o1 wk D hD => ?_
  obtain ⟨kp, f, hn, step, okk, h1⟩ := h1
  have hmD : m1 D = none := o1.free hD
  -- the list so far
  let out : Nat → List HB.D := fun i => ((List.range i).filter kp).map f
  have out0 : out 0 = [] := rfl
  have outS : ∀ i, out (i + 1) = out i ++ (if kp i = true then [f i] else []) := fun i => by
    show ((List.range (i + 1)).filter kp).map f = _
    rw [List.range_succ, List.filter_append, List.map_append]
    congr 1
    by_cases q : kp i = true
    · rw [if_pos q, List.filter_cons, if_pos q]; rfl
    · rw [if_neg q, List.filter_cons, if_neg q]; rfl
  have outL : ∀ i, (out i).length ≤ i := fun i => by
    show (((List.range i).filter kp).map f).length ≤ i
    rw [List.length_map]
    exact Nat.le_trans (List.length_filter_le _ _) (by rw [List.length_range]; exact Nat.le_refl _)
  refine ⟨fun i q H' => q = n - i ∧ i ≤ n ∧ Step H1 m1 H' (mset m1 D (.lst (out i))) ∧ MOk K H' (mset m1 D (.lst (out i))), ⟨n, by simp, Nat.zero_le _, Step.newM hD, o1.newM hD ⟨[], upd_same, iss_nil.mpr rfl⟩⟩, ?_⟩
  rintro i q H' ⟨rfl, hi, st1, om⟩
  by_cases hlt : i < n
  · obtain ⟨hok, hstep⟩ := step i D (out i) hlt hmD
    refine .inr ⟨wk.goes i H' _ hlt st1 om hok, fun H2 => Step H1 m1 H2 (mset m1 D (.lst (out (i + 1)))) ∧ MOk K H2 (mset m1 D (.lst (out (i + 1)))), fun H2 h2 => ⟨n - (i + 1), by omega, rfl, hlt, h2⟩, fun x H2 y => ?_⟩
    obtain ⟨st2, om2, ix⟩ := wk.yields i H' _ x H2 hlt st1 om hok y
    have sl : Slots K H2 (mset m1 D (.lst (out i))) ((L2.wipe σ [j]).set j (some x)) ((Γ.set j none).set j (some (item i))) :=
      ((((hs.step s1).step st1).step st2).unset j).set ix
    have acc : Step H1 m1 H2 (mset m1 D (.lst (out i))) := st1.trans st2
    show L2.wipe ((L2.wipe σ [j]).set j (some x)) [j] = L2.wipe σ [j] ∧ _
    refine ⟨by show ((σ.set j none).set j (some x)).set j none = σ.set j none; rw [List.set_set, List.set_set], _, _, _, sl, om2, hstep, fun b m2 H3 hb s3 o3 => ?_⟩
    obtain ⟨rfl, rfl, hb⟩ := hb
    cases hk : kp i with
    | false =>
      rw [if_neg Bool.false_ne_true]
      have e : out (i + 1) = out i := by rw [outS, hk, if_neg Bool.false_ne_true, List.append_nil]
      rw [e]
      exact ⟨acc.trans s3, o3⟩
    | true =>
      rw [if_pos rfl]
      refine ⟨_, _, _, sl.step s3, o3, hb hk, fun d m3 v H4 hd s4 o4 i4 => ?_⟩
      obtain ⟨rfl, rfl⟩ := hd
      obtain ⟨vs, hv, iv⟩ := o4 D _ mset_same
      have e : out (i + 1) = out i ++ [f i] := by rw [outS, hk, if_pos rfl]
      have hl : vs.length ≤ i := by rw [iv.length]; exact outL i
      refine ⟨vs, hv, Nat.lt_of_le_of_lt (Nat.le_trans hl (Nat.le_trans hi hn)) (by decide), ?_⟩
      have st5 : Step H4 (mset m1 D (.lst (out i))) (upd H4 D (.lst (vs ++ [v]))) (mset (mset m1 D (.lst (out i))) D (.lst (out (i + 1)))) := Step.wr mset_same
      have om5 : MOk K (upd H4 D (.lst (vs ++ [v]))) (mset (mset m1 D (.lst (out i))) D (.lst (out (i + 1)))) := by
        refine o4.wr mset_same ⟨_, upd_same, ?_⟩
        have ii := (Iss.step st5 _ iv).append (Iss.one (i4.step st5))
        rw [← e] at ii
        exact ii
      have fin := ((acc.trans s3).trans s4).trans st5
      rw [mset_mset] at fin om5
      exact ⟨fin, om5⟩
  · have e : i = n := by omega
    subst e
    refine .inl ⟨wk.stops H' _ st1 om (okk D _ hmD), ?_⟩
    have le : Le m1 (mset m1 D (.lst (out i))) := Le.refl.new hmD
    obtain ⟨vs, hv, iv⟩ := om D _ mset_same
    refine hq _ m1 _ H' h1 ((s1.trans st1).trans le.step) (om.le le) (is_lst.mpr ⟨D, vs, rfl, hv, hmD, Iss.step le.step _ iv⟩)
theorem le_lc (hc : X.calm = true) (hN : X.N.Nodup) (hi : LI X (.Name x xp) iter si) (ok : BlkOk X.N X.env.scope scope [(x, j)])
    (hg : ∀ (s : Shared) (H : Hp) (C : Addr) (cl : List (Str × Addr)) (fp : List Addr), PG (X.blk s H scope (compEnvC scope cl C X.env) fp) (.Name x xp) (gName j))
    (ht : ∀ (s : Shared) (H : Hp) (C : Addr) (cl : List (Str × Addr)) (fp : List Addr), PTs (X.blk s H scope (compEnvC scope cl C X.env) fp) ifs (uT X.K st))
    (he : ∀ (s : Shared) (H : Hp) (C : Addr) (cl : List (Str × Addr)) (fp : List Addr), LE (X.blk s H scope (compEnvC scope cl C X.env) fp) elt se) (hs : ∀ x, foldedSetIterable iter X.env x = pure x := by intro _; rfl) :
    LE X (.ListComp elt [⟨.Name x xp, iter, ifs, 0⟩] scope pos) (sLc si st se j) := by
  obtain ⟨wi, pi, l⟩ := hi
  exact ⟨_, pe_lc (own := [(x, j)]) hc hN pi ok hg ht (fun s H C cl fp => (he s H C cl fp).u) hs, lift_lc l⟩
theorem ls_setLc {i : Nat} {y : Str} {py spos : Pos} (hc : X.calm = true) (hN : X.N.Nodup) (hy : X.N[i]? = some y) (hyl : X.env.scope.names.lookup y = some .local)
    (hsw : swapsWith (.ListComp elt [⟨.Name x xp, iter, ifs, 0⟩] scope pos) (some (.Name y py)) spos.line X.env = pure true) (hi : LI X (.Name x xp) iter si) (ok : BlkOk X.N X.env.scope scope [(x, j)])
    (hg : ∀ (s : Shared) (H : Hp) (C : Addr) (cl : List (Str × Addr)) (fp : List Addr), PG (X.blk s H scope (compEnvC scope cl C X.env) fp) (.Name x xp) (gName j))
    (ht : ∀ (s : Shared) (H : Hp) (C : Addr) (cl : List (Str × Addr)) (fp : List Addr), PTs (X.blk s H scope (compEnvC scope cl C X.env) fp) ifs (uT X.K st))
    (he : ∀ (s : Shared) (H : Hp) (C : Addr) (cl : List (Str × Addr)) (fp : List Addr), LE (X.blk s H scope (compEnvC scope cl C X.env) fp) elt se) (hs : ∀ x, foldedSetIterable iter X.env x = pure x := by intro _; rfl) :
    LS X (.Assign [.Name y py] (.ListComp elt [⟨.Name x xp, iter, ifs, 0⟩] scope pos) spos) (sSet i (sLc si st se j)) := by
  obtain ⟨wi, pi, l⟩ := hi
  refine ⟨_, ps_setLc (own := [(x, j)]) hc hN hy hyl hsw pi ok hg ht (fun s H C cl fp => (he s H C cl fp).u) hs, fun σ H Γ m E D hs hm h k => lift_lc l σ H Γ m _ _ hs hm h fun d m1 v H1 h1 s1 o1 i1 => ?_⟩
  exact k.nx _ m1 _ H1 h1 s1 o1 ((hs.step s1).set i1)
end
end HB
set_option Elab.async false
set_option linter.all false
set_option maxRecDepth 100000
set_option maxHeartbeats 4000000
/-! fields, subscripts, slices, built-ins by plain data -/
namespace HB
open PySem L2
section
variable {X : Cx} {o e i : Expr} {es : List Expr} {f x : Str} {pos p apos p2 : Pos} {so se si : SE} {sa : SA}
/-! ### fields -/
def sFld (G : Addr → Prop) (f : Str) (so : SE) : SE := fun Γ m P => so Γ m fun d m1 => ∃ C fs v, asO m1 d C fs ∧ G C ∧ fs.lookup f = some v ∧ P v m1
theorem le_fld {G : Addr → Prop} (hG : ∀ C, G C → Cls X.K C ∧ NoAttr X.K C f) (ho : LE X o so) (hb : attributeBase o f X.env (eval o X.env) = eval o X.env := by rfl) : LE X (.Attribute o f pos) (sFld G f so) := by
  obtain ⟨t, pt, l⟩ := ho
  refine ⟨_, pe_fld pt hb, fun σ H Γ m P Q hs hm h hq => l σ H Γ m _ _ hs hm h fun d m1 v H1 h1 s1 o1 i1 => ?_⟩
  obtain ⟨C, fs, y, ha, hg, hl, h1⟩ := h1
  obtain ⟨a, dx, gs, rfl, e1, r1⟩ := asO_ok o1 ha i1
  obtain ⟨w, h2, h3⟩ := r1.look hl
  exact ⟨a, C, dx, gs, w, rfl, e1, (hG C hg).1, (hG C hg).2, h2, hq y m1 w H1 h1 s1 o1 h3⟩
/-- C.f, a constant of the class -/
def sCVal (C : Addr) (d : D) (so : SE) : SE := fun Γ m P => so Γ m fun x m1 => x = .ref C ∧ P d m1
theorem le_cval {C : Addr} {mc u : Value} {v : V} {d : D} (r : ClX.CRead X.K C mc) (k : ClX.CVal X.K C mc f v u) (hi : ∀ H m, Is X.K H m d v) (ho : LE X o so) (hb : attributeBase o f X.env (eval o X.env) = eval o X.env := by rfl) :
    LE X (.Attribute o f pos) (sCVal C d so) := by
  obtain ⟨t, pt, l⟩ := ho
  refine ⟨_, ClX.pe_cval pt hb, fun σ H Γ m P Q hs hm h hq => l σ H Γ m _ _ hs hm h fun x m1 w H1 h1 s1 o1 i1 => ?_⟩
  obtain ⟨rfl, h1⟩ := h1
  exact ⟨C, mc, v, u, is_ref.mp i1, r, k, hq d m1 v H1 h1 s1 o1 (hi H1 m1)⟩
/-- C.m(e, ..), a classmethod -/
def sCMeth (C : Addr) (T : PT1) (so : SE) (sa : SA) : SE := fun Γ m P => so Γ m fun x m1 => x = .ref C ∧ sa Γ m1 fun ds m2 => T (.ref C :: ds) m2 P
theorem le_cmeth {C q g : Addr} {mc : Value} {mn : Str} {k : Nat} {T : PT1} {pl : Sem Bool} (ho : LE X o so) (r : ClX.CRead X.K C mc) (c : ClX.CMet X.K C mc mn q g) (F : FnQ false X.prog X.w X.K X.mg X.base k g T) (hr : Room k X.A) (ha : LA X (e :: es) sa)
    (hst : starEach (e :: es) X.env = (false, eval e X.env) :: starEach es X.env := by rfl) (hpl : (backTo pos (starEach es X.env)).any (·.1) = false := by rfl)
    (ht : eval (.Call (.Attribute o mn apos) (e :: es) [] pos) X.env = (do
      let ov ← eval o X.env
      standAt apos.atName
      let (f, first) ← holding [ov] (getMethod ov mn pl)
      callWith pos f first (backTo pos (starEach (e :: es) X.env)) (backToKw pos (keywordEach [] X.env))) := by rfl) :
    LE X (.Call (.Attribute o mn apos) (e :: es) [] pos) (sCMeth C T so sa) := by
  obtain ⟨t, pt, l⟩ := ho
  obtain ⟨u, pa, l'⟩ := ha
  refine ⟨_, ClX.pe_cmeth (E := E0) pt r c F.raw hr pass0 pa hst hpl ht, fun σ H Γ m P Q hs hm h hq => l σ H Γ m _ _ hs hm h fun x m1 w H1 h1 s1 o1 i1 => ?_⟩
  obtain ⟨rfl, h1⟩ := h1
  refine ⟨is_ref.mp i1, l' σ H1 Γ m1 _ _ (hs.step s1) o1 h1 fun ds m2 vs H2 h2 s2 o2 i2 => ?_⟩
  exact ⟨.ref C :: ds, m2, P, iss_cons.mpr ⟨_, vs, rfl, is_ref.mpr rfl, i2⟩, o2, h2, hq.step (s1.trans s2)⟩
/-- e.f, a property -/
def sProp (C : Addr) (T : PT1) (so : SE) : SE := fun Γ m P => so Γ m fun d m1 => (∃ fs, asO m1 d C fs) ∧ T [d] m1 P
theorem le_prop {C q g : Addr} {k : Nat} {T : PT1} (ho : LE X o so) (c : Cls X.K C) (hp : PropOf X.K C f q g) (F : FnQ false X.prog X.w X.K X.mg X.base k g T) (hr : Room (k + 1) X.A)
    (hab : attributeBase o f X.env (eval o X.env) = eval o X.env := by rfl) : LE X (.Attribute o f pos) (sProp C T so) := by
  obtain ⟨t, pt, l⟩ := ho
  refine ⟨fun σ H Q => t σ H fun v H1 => ∃ a dx fs, v = .ref a ∧ H1 a = some (.ins C dx fs) ∧ SpG X.K T [v] H1 Q, ⟨fun pins s σ H Q I h => ?_⟩, fun σ H Γ m P Q hs hm h hq => l σ H Γ m _ _ hs hm h fun d m1 v H1 h1 s1 o1 i1 => ?_⟩
  · refine attr_of hab (thn (pt.run pins s σ H _ I h) fun u s1 ⟨x, H1, I1, rx, a, dx, fs, ex, ea, q⟩ => ?_)
    subst ex
    obtain rfl : u = Value.ref a := rx
    obtain ⟨mA, O, _, _, _, _⟩ := ins_get I1.hok ea
    obtain ⟨od, J, _⟩ := O.look
    obtain ⟨rest, hrec⟩ := hp.rec_
    have I2 := I1.tok (s1.toks + 1)
    have hc : (PySem.W.clsIn X.K C).isSome = true := by
      obtain ⟨cd, hc, _⟩ := PySem.W.any_some c.hd
      rw [hc]
      rfl
    refine PySem.W.get_bind I1.kIn J (PySem.W.plainGet_of (c.get f)).1 (PySem.W.findObj_data hc hp.at_ hp.get hp.tak) (PySem.W.plainGet_of (c.get f)).2 (wpAny_call (PySem.W.prop_get (s := { s1 with toks := s1.toks + 1 }) I1.kIn hrec ?_))
    refine codeAny_mono (F X.A.in1 X.stack { s1 with toks := s1.toks + 1 } H1 [.ref a] [.ref a] Q hr.in1 (fun q => nomatch q) I2.env0.in1 (.cons rfl .nil) q) fun r s' hq => ?_
    cases r with
    | error er => exact False.elim hq
    | ok fl =>
      cases fl with
      | ret u =>
        obtain ⟨v, H', I3, rv, q3⟩ := I2.after hq
        show wpAny _ _ (handedOut u) _ _ _
        rw [PySem.W.handedOut_of (handed_of rv)]
        exact wpAny_pure ⟨v, H', I3, rv, q3⟩
      | next => exact False.elim hq
      | brk => exact False.elim hq
      | cont => exact False.elim hq
  · obtain ⟨⟨fs, ha⟩, h1⟩ := h1
    obtain ⟨a, dx, gs, rfl, e1, r1⟩ := asO_ok o1 ha i1
    exact ⟨a, dx, gs, rfl, e1, [d], m1, P, Iss.one i1, o1, h1, hq.step s1⟩
/-! ### subscripts -/
def rhoIx : Rho := fun dx dy m P => match dx, dy with
  | .str z, .int i => ∃ (j : Nat) (c : Nat), i = j ∧ z.length ≤ 1000000 ∧ z.cps.toList[j]? = some c ∧ P (.str ⟨#[c]⟩) m
  | dx, .int i => ∃ (j : Nat) (ds : List D) (d : D), i = j ∧ asQ m dx ds ∧ ds[j]? = some d ∧ P d m
  | _, _ => False
theorem lift_ix {K : PySem.W.Frag} : LiftR K (rIx K) rhoIx := by
  intro x y dx dy H m P Q o ix iy h hq
  cases dy with
  | int i =>
    obtain rfl := is_int.mp iy
    have seq : (∃ (j : Nat) (ds : List D) (d : D), i = j ∧ asQ m dx ds ∧ ds[j]? = some d ∧ P d m) → rIx K x (.int i) H Q := by
      rintro ⟨j, ds, d, rfl, ha, hj, h'⟩
      obtain ⟨a, vs, rfl, hq', iv⟩ := asQ_ok o ha ix
      obtain ⟨v, hv, id⟩ := iv.get hj
      rcases hq' with hl | ht
      · exact .inl ⟨a, vs, _, v, rfl, rfl, hl, atI_nat hv, hq d m v H h' Step.refl o id⟩
      · exact .inr (.inl ⟨a, vs, _, v, rfl, rfl, ht, atI_nat hv, hq d m v H h' Step.refl o id⟩)
    cases dx with
    | str z =>
      obtain ⟨j, c, rfl, hz, hj, h'⟩ := h
      exact .inr (.inr ⟨z, _, c, is_str.mp ix, rfl, line6 hz, atI_nat hj, hq _ m _ H h' Step.refl o (is_str.mpr rfl)⟩)
    | _ => exact seq h
  | _ => cases dx <;> exact (show False from h).elim
theorem le_ix (ho : LE X o so) (hi : LE X i si) (hs : PlainIx i := by intro _ _; rfl) : LE X (.Subscript o i pos) (sBin rhoIx so si) := by
  obtain ⟨t, pt, l⟩ := ho
  obtain ⟨u, pu, l'⟩ := hi
  exact ⟨_, pe_ix ix_seq pt pu hs, lift_op lift_ix l l'⟩
/-- d[k], k a text -/
def rhoDGet : Rho := fun dx dy m P => ∃ kvs z v, asD m dx kvs ∧ dy = .str z ∧ kvs.lookup z = some v ∧ P v m
theorem le_dget (hu : X.A.units + 1 < cLine) (ho : LE X o so) (hi : LE X i si) (hs : NoSl i := by intro _ _; rfl) : LE X (.Subscript o i pos) (sBin rhoDGet so si) := by
  obtain ⟨t, pt, l⟩ := ho
  obtain ⟨u, pu, l'⟩ := hi
  refine ⟨_, pe_dget hu pt pu hs, fun σ H Γ m P Q hs hm h hq => l σ H Γ m _ _ hs hm h fun d m1 x H1 h1 s1 o1 i1 => ?_⟩
  refine l' σ H1 Γ m1 _ _ (hs.step s1) o1 h1 fun y m2 w H2 h2 s2 o2 i2 => ?_
  obtain ⟨kvs, z, v, ha, rfl, hl, h2⟩ := h2
  cases d with
  | ref a =>
    obtain rfl := is_ref.mp i1
    obtain rfl := is_str.mp i2
    obtain ⟨gs, e1, r1⟩ := o2 a _ ha
    obtain ⟨v', hv, iv⟩ := r1.get hl
    refine ⟨a, v', rfl, ?_, hq v m2 v' H2 h2 (s1.trans s2) o2 iv⟩
    rw [← hv]
    exact DGet.k (k := Sum.inr z) e1
  | _ => exact (show False from ha).elim
/-! ### slices -/
abbrev SO := GEnv → Mem → (Option Int → Mem → Prop) → Prop
def LO (X : Cx) (e : Option Expr) (s : SO) : Prop := ∃ t, PO X e t ∧ ∀ (σ : St) (H : Hp) (Γ : GEnv) (m : Mem) (P : Option Int → Mem → Prop) (Q : Option Int → Hp → Prop), Slots X.K H m σ Γ → MOk X.K H m → s Γ m P → (∀ b m' H', P b m' → Step H m H' m' → MOk X.K H' m' → Q b H') → t σ H Q
def oNo : SO := fun _ m P => P none m
def oSome (s : SE) : SO := fun Γ m P => s Γ m fun d m1 => match d with
  | .int k => P (some k) m1
  | _ => False
theorem lo_no : LO X none oNo := ⟨_, po_none, fun σ H Γ m P Q hs hm h hq => hq none m H h Step.refl hm⟩
theorem lo_some (h : LE X e se) : LO X (some e) (oSome se) := by
  obtain ⟨t, pt, l⟩ := h
  refine ⟨_, po_some pt, fun σ H Γ m P Q hs hm h hq => l σ H Γ m _ _ hs hm h fun d m1 v H1 h1 s1 o1 i1 => ?_⟩
  cases d with
  | int k => exact ⟨k, is_int.mp i1, hq (some k) m1 H1 h1 s1 o1⟩
  | _ => exact (show False from h1).elim
def cutD (ds : List D) (lo hi : Option Int) : List D := (ds.drop (HT.sIx ds.length 0 lo)).take (HT.sIx ds.length ds.length hi - HT.sIx ds.length 0 lo)
theorem Iss.cut {K : PySem.W.Frag} {H : Hp} {m : Mem} {ds : List D} {vs : List V} (h : Iss K H m ds vs) (lo hi : Option Int) : Iss K H m (cutD ds lo hi) (cutV vs lo hi) := by
  unfold cutD cutV
  rw [h.length]
  exact (h.drop _).take _
def sSl (so : SE) (sl sh : SO) : SE := fun Γ m P => so Γ m fun d m1 => sl Γ m1 fun lo m2 => sh Γ m2 fun hi m3 => match d with
  | .tup ds => ¬ (HT.sIx ds.length 0 lo = 0 ∧ HT.sIx ds.length ds.length hi = ds.length) ∧ P (.tup (cutD ds lo hi)) m3
  | .lst ds => P (.lst (cutD ds lo hi)) m3
  | .ref a => ∃ ds, m3 a = some (.lst ds) ∧ P (.lst (cutD ds lo hi)) m3
  | .scr ns => P (.lst (cutD (ns.map .int) lo hi)) m3
  | _ => False
theorem iss_ints {K : PySem.W.Frag} {H : Hp} {m : Mem} : ∀ ns : List Int, Iss K H m (ns.map D.int) (ns.map V.int)
  | [] => iss_nil.mpr rfl
  | n :: ns => iss_cons.mpr ⟨.int n, _, rfl, is_int.mpr rfl, iss_ints ns⟩
theorem le_slice {lo hi : Option Expr} {sl sh : SO} (ho : LE X o so) (hl : LO X lo sl) (hh : LO X hi sh) : LE X (.Subscript o (.Slice lo hi none p2) pos) (sSl so sl sh) := by
  obtain ⟨t, pt, l⟩ := ho
  obtain ⟨t1, p1, l1⟩ := hl
  obtain ⟨t2, p2, l2⟩ := hh
  refine ⟨_, pe_slice (sl_list.or sl_tup) pt p1 p2, fun σ H Γ m P Q hs hm h hq => l σ H Γ m _ _ hs hm h fun d m1 x H1 h1 s1 o1 i1 => ?_⟩
  refine l1 σ H1 Γ m1 _ _ (hs.step s1) o1 h1 fun lo m2 H2 h2 s2 o2 => ?_
  refine l2 σ H2 Γ m2 _ _ ((hs.step s1).step s2) o2 h2 fun hi m3 H3 h3 s3 o3 => ?_
  have st := (s1.trans s2).trans s3
  have i3 := (i1.step s2).step s3
  cases d with
  | tup ds =>
    obtain ⟨hw, h3⟩ := h3
    obtain ⟨a, vs, rfl, ha, iv⟩ := is_tup.mp i3
    refine .inr ⟨a, vs, rfl, ha.sq, by rw [iv.length]; exact hw, fun q hq' => ?_⟩
    exact hq _ m3 _ _ h3 (st.trans (Step.new hq')) (o3.new hq') (newTup o3 hq' (iv.cut lo hi))
  | lst ds =>
    obtain ⟨a, vs, rfl, ha, _, iv⟩ := is_lst.mp i3
    refine .inl ⟨a, vs, rfl, SqL.of ha, fun q hq' => ?_⟩
    exact hq _ m3 _ _ h3 (st.trans (Step.new hq')) (o3.new hq') (newLst o3 hq' (iv.cut lo hi))
  | ref a =>
    obtain ⟨ds, ha, h3⟩ := h3
    obtain ⟨vs, ha, iv⟩ := o3 a _ ha
    refine .inl ⟨a, vs, is_ref.mp i3, SqL.of ha, fun q hq' => ?_⟩
    exact hq _ m3 _ _ h3 (st.trans (Step.new hq')) (o3.new hq') (newLst o3 hq' (iv.cut lo hi))
  | scr ns =>
    obtain ⟨a, rfl, ha⟩ := is_scr.mp i3
    refine .inl ⟨a, _, rfl, ha.sq, fun q hq' => ?_⟩
    exact hq _ m3 _ _ h3 (st.trans (Step.new hq')) (o3.new hq') (newLst o3 hq' ((iss_ints ns).cut lo hi))
  | _ => exact (show False from h3).elim
/-! ### a dict with one pair -/
def sDict1 (z : Str) (sv : SE) : SE := fun Γ m P => ∀ a, m a = none → sv Γ (mset m a (.dic [])) fun d m1 => m1 a = some (.dic []) ∧ P (.ref a) (mset m1 a (.dic [(z, d)]))
theorem le_dict1 {z : Str} {j : Nat} {kp : Pos} {v : Expr} (hv : LE X v so) : LE X (.Dict [some (.Constant (.str z) j kp)] [v] pos) (sDict1 z so) := by
  obtain ⟨t, pt, l⟩ := hv
  refine ⟨_, pe_disp (pps_cons pe_str pt pps_nil) rfl rfl (by simp) (by show 1 ≤ 15; decide), fun σ H Γ m P Q hs hm h hq q hq' => ?_⟩
  have st : Step H m (upd H q (.dK [])) (mset m q (.dic [])) := Step.newM hq'
  refine l σ _ Γ (mset m q (.dic [])) _ _ (hs.step st) (hm.newM hq' ⟨[], upd_same, .nil⟩) (h q (hm.free hq')) fun d m1 v H1 h1 s1 o1 i1 => ?_
  obtain ⟨hd, h1⟩ := h1
  obtain ⟨gs, e1, r1⟩ := o1 q _ hd
  cases r1
  refine ⟨e1, [(Sum.inr z, v)], rfl, (by show 1 ≤ 15; decide), ?_⟩
  have st2 : Step H1 m1 (upd H1 q (.dK [(Sum.inr z, v)])) (mset m1 q (.dic [(z, d)])) := Step.wr hd
  exact hq _ _ _ _ h1 ((st.trans s1).trans st2) (o1.wr hd ⟨_, upd_same, .cons ⟨rfl, i1.step st2⟩ .nil⟩) (is_ref.mpr rfl)
/-! ### calls of built-ins -/
abbrev RhoA := List D → Mem → PD → Prop
def LiftC (K : PySem.W.Frag) (r : List V → Hp → VK → Prop) (ρ : RhoA) : Prop := ∀ (ds : List D) (vs : List V) (H : Hp) (m : Mem) (P : PD) (Q : VK), MOk K H m → Iss K H m ds vs → ρ ds m P → KE K H m P Q → r vs H Q
def LC (X : Cx) (f : Value) (ρ : RhoA) : Prop := ∃ r, CallR X f r ∧ LiftC X.K r ρ
def sBlt (ρ : RhoA) (sa : SA) : SE := fun Γ m P => sa Γ m fun ds m1 => ρ ds m1 P
theorem lift_blt {K : PySem.W.Frag} {r : List V → Hp → VK → Prop} {ρ : RhoA} {t : TA} (lr : LiftC K r ρ) (l : LiftA K t sa) : LiftE K (tCB r t) (sBlt ρ sa) := fun σ H Γ m P Q hs hm h hq =>
  l σ H Γ m _ _ hs hm h fun ds m1 vs H1 h1 s1 o1 i1 => lr ds vs H1 m1 P Q o1 i1 h1 (hq.step s1)
theorem le_blt {ρ : RhoA} {id : String} (hc : LC X (.builtin id) ρ) (hm : X.mg x = none) (hv : bootBuiltins x = some (.builtin id)) (ha : LA X (e :: es) sa) (hg : Gl X x := by rfl) (hn : x ≠ "__name__" := by decide) (hdb : (x == ("__debug__" : Str)) = false := by decide)
    (he : starEach (e :: es) X.env = (false, eval e X.env) :: starEach es X.env := by rfl) (hpl : (backTo pos (starEach es X.env)).any (·.1) = false := by rfl) : LE X (.Call (.Name x p) (e :: es) [] pos) (sBlt ρ sa) := by
  obtain ⟨r, cr, lr⟩ := hc
  obtain ⟨t, pa, l⟩ := ha
  exact ⟨_, pe_callB cr hg hm hv pa hn hdb he hpl, lift_blt lr l⟩
theorem le_bltT {ρ : RhoA} {T : String} (hc : LC X (.type T) ρ) (hm : X.mg x = none) (hv : bootBuiltins x = some (.type T)) (ha : LA X (e :: es) sa) (hg : Gl X x := by rfl) (hn : x ≠ "__name__" := by decide) (hdb : (x == ("__debug__" : Str)) = false := by decide)
    (he : starEach (e :: es) X.env = (false, eval e X.env) :: starEach es X.env := by rfl) (hpl : (backTo pos (starEach es X.env)).any (·.1) = false := by rfl) : LE X (.Call (.Name x p) (e :: es) [] pos) (sBlt ρ sa) := by
  obtain ⟨r, cr, lr⟩ := hc
  obtain ⟨t, pa, l⟩ := ha
  exact ⟨_, pe_callTy cr hg hm hv pa hn hdb he hpl, lift_blt lr l⟩
theorem iss1 {K : PySem.W.Frag} {H : Hp} {m : Mem} {d : D} {vs : List V} (i : Iss K H m [d] vs) : ∃ v, vs = [v] ∧ Is K H m d v := by
  obtain ⟨v, r, rfl, iv, ir⟩ := iss_cons.mp i
  obtain rfl := iss_nil.mp ir
  exact ⟨v, rfl, iv⟩
theorem iss2 {K : PySem.W.Frag} {H : Hp} {m : Mem} {d d' : D} {vs : List V} (i : Iss K H m [d, d'] vs) : ∃ v w, vs = [v, w] ∧ Is K H m d v ∧ Is K H m d' w := by
  obtain ⟨v, r, rfl, iv, ir⟩ := iss_cons.mp i
  obtain ⟨w, rfl, iw⟩ := iss1 ir
  exact ⟨v, w, rfl, iv, iw⟩
/-- len of a sequence, a text -/
def rhoLen : RhoA := fun ds m P => match ds with
  | [.str z] => z.length ≤ 1000000 ∧ P (.int z.length) m
  | [d] => ∃ es, asQ m d es ∧ P (.int es.length) m
  | _ => False
theorem lc_len : LC X (.builtin "len") rhoLen := by
  refine ⟨_, call_len_seq.or call_len_str, fun ds vs H m P Q o i h hq => ?_⟩
  match ds, h with
  | [d], h =>
    obtain ⟨v, rfl, iv⟩ := iss1 i
    have seq : (∃ es, asQ m d es ∧ P (.int es.length) m) → ∃ p ys, [v] = [V.ref p] ∧ (SqL X.K H p ys ∨ SqT X.K H p ys) ∧ Q (.int ys.length) H := by
      rintro ⟨es, ha, h'⟩
      obtain ⟨a, ws, rfl, hw, iw⟩ := asQ_ok o ha iv
      exact ⟨a, ws, rfl, hw, by rw [iw.length]; exact hq _ m _ H h' Step.refl o (is_int.mpr rfl)⟩
    cases d with
    | str z =>
      obtain rfl := is_str.mp iv
      exact .inr ⟨z, rfl, line6 h.1, hq _ m _ H h.2 Step.refl o (is_int.mpr rfl)⟩
    | _ => exact .inl (seq h)
  | [], h => exact (show False from h).elim
  | d :: _ :: _, h => cases d <;> exact (show False from h).elim
/-- int of an int, a bool, a text -/
def rhoInt : RhoA := fun ds m P => match ds with
  | [.int i] => P (.int i) m
  | [.bl b] => P (.int (if b then 1 else 0)) m
  | [.str z] => ∃ n, PySem.intText? z = some n ∧ z.length ≤ 640 ∧ P (.int n) m
  | _ => False
theorem lc_int : LC X (.type "int") rhoInt := by
  refine ⟨_, call_int1.or call_int_str, fun ds vs H m P Q o i h hq => ?_⟩
  match ds, h with
  | [.int k], h =>
    obtain ⟨v, rfl, iv⟩ := iss1 i
    obtain rfl := is_int.mp iv
    exact .inl (.inl ⟨k, rfl, hq _ m _ H h Step.refl o (is_int.mpr rfl)⟩)
  | [.bl k], h =>
    obtain ⟨v, rfl, iv⟩ := iss1 i
    obtain rfl := is_bl.mp iv
    exact .inl (.inr ⟨k, rfl, hq _ m _ H h Step.refl o (is_int.mpr rfl)⟩)
  | [.str z], h =>
    obtain ⟨v, rfl, iv⟩ := iss1 i
    obtain rfl := is_str.mp iv
    obtain ⟨n, h1, h2, h3⟩ := h
    exact .inr ⟨z, n, rfl, h1, h2, hq _ m _ H h3 Step.refl o (is_int.mpr rfl)⟩
/-- str of an int, a text -/
def rhoStr : RhoA := fun ds m P => match ds with
  | [.int i] => i.natAbs < 1000000 ∧ P (.str (toString i : String)) m
  | [.str z] => P (.str z) m
  | _ => False
theorem small_log {i : Int} (h : i.natAbs < 1000000) : i.natAbs.log2 < 1920 := by
  by_cases h0 : i.natAbs = 0
  · rw [h0]; decide
  · rw [Nat.log2_lt h0]
    exact Nat.lt_of_lt_of_le h (Nat.le_trans (show 1000000 ≤ 2 ^ 20 by decide) (Nat.pow_le_pow_right (show 0 < 2 by decide) (show 20 ≤ 1920 by decide)))
theorem lc_str : LC X (.type "str") rhoStr := by
  refine ⟨_, call_str_int.or SkE.call_str_str, fun ds vs H m P Q o i h hq => ?_⟩
  match ds, h with
  | [.int k], h =>
    obtain ⟨v, rfl, iv⟩ := iss1 i
    obtain rfl := is_int.mp iv
    exact .inl ⟨k, rfl, small_log h.1, hq _ m _ H h.2 Step.refl o (is_str.mpr rfl)⟩
  | [.str z], h =>
    obtain ⟨v, rfl, iv⟩ := iss1 i
    obtain rfl := is_str.mp iv
    exact .inr ⟨z, rfl, hq _ m _ H h Step.refl o (is_str.mpr rfl)⟩
def rhoAbs : RhoA := fun ds m P => match ds with
  | [.int i] => P (.int (if i < 0 then -i else i)) m
  | _ => False
theorem lc_abs : LC X (.builtin "abs") rhoAbs := by
  refine ⟨_, call_abs, fun ds vs H m P Q o i h hq => ?_⟩
  match ds, h with
  | [.int k], h =>
    obtain ⟨v, rfl, iv⟩ := iss1 i
    obtain rfl := is_int.mp iv
    exact ⟨k, rfl, hq _ m _ H h Step.refl o (is_int.mpr rfl)⟩
/-- list of a sequence: it will not change; it will -/
def rhoList : RhoA := fun ds m P => match ds with
  | [d] => ∃ es, asQ m d es ∧ P (.lst es) m
  | _ => False
theorem lc_list : LC X (.type "list") rhoList := by
  refine ⟨_, call_list_of, fun ds vs H m P Q o i h hq => ?_⟩
  match ds, h with
  | [d], h =>
    obtain ⟨v, rfl, iv⟩ := iss1 i
    obtain ⟨es, ha, h⟩ := h
    obtain ⟨a, ws, rfl, hw, iw⟩ := asQ_ok o ha iv
    exact ⟨a, ws, rfl, hw, fun l hl => hq _ m _ _ h (Step.new hl) (o.new hl) (newLst o hl iw)⟩
def rhoListM : RhoA := fun ds m P => match ds with
  | [d] => ∃ es, asQ m d es ∧ ∀ a, m a = none → P (.ref a) (mset m a (.lst es))
  | _ => False
theorem lc_listM : LC X (.type "list") rhoListM := by
  refine ⟨_, call_list_of, fun ds vs H m P Q o i h hq => ?_⟩
  match ds, h with
  | [d], h =>
    obtain ⟨v, rfl, iv⟩ := iss1 i
    obtain ⟨es, ha, h⟩ := h
    obtain ⟨a, ws, rfl, hw, iw⟩ := asQ_ok o ha iv
    exact ⟨a, ws, rfl, hw, fun l hl => hq _ _ _ _ (h l (o.free hl)) (Step.newM hl) (newLstM o hl iw) (is_ref.mpr rfl)⟩
def rhoTuple : RhoA := fun ds m P => match ds with
  | [d] => ∃ es, asQ m d es ∧ P (.tup es) m
  | _ => False
theorem lc_tuple : LC X (.type "tuple") rhoTuple := by
  refine ⟨_, call_tuple_of, fun ds vs H m P Q o i h hq => ?_⟩
  match ds, h with
  | [d], h =>
    obtain ⟨v, rfl, iv⟩ := iss1 i
    obtain ⟨es, ha, h⟩ := h
    have lst : ∀ a ws, v = .ref a → SqL X.K H a ws → Iss X.K H m es ws → ∃ p ys, [v] = [V.ref p] ∧ ((SqL X.K H p ys ∧ ∀ l, H l = none → Q (.ref l) (upd H l (.tup ys))) ∨ (SqT X.K H p ys ∧ Q (.ref p) H)) := by
      rintro a ws rfl hw iw
      exact ⟨a, ws, rfl, .inl ⟨hw, fun l hl => hq _ m _ _ h (Step.new hl) (o.new hl) (newTup o hl iw)⟩⟩
    cases d with
    | tup xs =>
      obtain rfl : es = xs := ha
      obtain ⟨a, ws, rfl, hw, iw⟩ := is_tup.mp iv
      exact ⟨a, ws, rfl, .inr ⟨hw.sq, hq _ m _ H h Step.refl o iv⟩⟩
    | lst xs =>
      obtain rfl : es = xs := ha
      obtain ⟨a, ws, e1, hw, _, iw⟩ := is_lst.mp iv
      exact lst a ws e1 (SqL.of hw) iw
    | ref a =>
      obtain ⟨ws, hw, iw⟩ := o a _ ha
      exact lst a ws (is_ref.mp iv) (SqL.of hw) iw
    | _ => exact (show False from ha).elim
/-! isinstance -/
/-- what must be known of an own class -/
structure InsK (K : PySem.W.Frag) (C : Addr) : Prop where
  cl : Cls K C
  ha : PySem.W.findIn K (.ref C) "__class__" = some (some (.builtin "object.__class__"))
  hn : PySem.W.specialIn K (.builtin "object.__class__") "__get__" = some (some (.builtin "getset_descriptor.__get__"))
  ht : PySem.W.takesIn K (.builtin "object.__class__") = some true
  hm : PySem.W.mroIn K C (.type "object") = some true
def tyD (K : PySem.W.Frag) (m : Mem) : D → Value → Prop
  | .bl _, t => t = .type "bool"
  | .int _, t => t = .type "int"
  | .str _, t => t = .type "str"
  | .non, t => t = .type "NoneType"
  | .lst _, t => t = .type "list"
  | .obj C _ _, t => t = .ref C ∧ InsK K C
  | .ref a, t => (∃ ds, m a = some (.lst ds) ∧ t = .type "list") ∨ ∃ C fs, m a = some (.ins C fs) ∧ t = .ref C ∧ InsK K C
  | _, _ => False
theorem tyX_of {K : PySem.W.Frag} {H : Hp} {m : Mem} {d : D} {v : V} {t : Value} (o : MOk K H m) (i : Is K H m d v) (h : tyD K m d t) : TyX K H v t := by
  have ins : ∀ (a C dx : Addr) fs, H a = some (.ins C dx fs) → InsK K C → TyX K H (.ref a) (.ref C) := fun a C dx fs e k => .base (.ins e k.cl k.ha k.hn k.ht k.hm)
  cases d with
  | bl b => rw [is_bl.mp i, show t = _ from h]; exact .base (.bl b)
  | int b => rw [is_int.mp i, show t = _ from h]; exact .base (.int b)
  | str b => rw [is_str.mp i, show t = _ from h]; exact .base (.str b)
  | non => rw [is_non.mp i, show t = _ from h]; exact .base .non
  | lst ds =>
    obtain ⟨a, vs, rfl, ha, _⟩ := is_lst.mp i
    rw [show t = _ from h]; exact .base (.lst ha)
  | obj C ns ds =>
    obtain ⟨a, dx, vs, rfl, ha, _⟩ := is_obj.mp i
    obtain ⟨rfl, k⟩ := h
    exact ins a C dx _ ha k
  | ref a =>
    obtain rfl := is_ref.mp i
    rcases h with ⟨ds, hm, rfl⟩ | ⟨C, fs, hm, rfl, k⟩
    · obtain ⟨vs, ha, _⟩ := o a _ hm
      exact .base (.lst ha)
    · obtain ⟨dx, gs, ha, _⟩ := o a _ hm
      exact ins a C dx _ ha k
  | _ => exact (show False from h).elim
def rhoIsi (K : PySem.W.Frag) : RhoA := fun ds m P => match ds with
  | [d, .ty n] => ∃ t b, tyD K m d t ∧ PySem.W.kitOne K t (.type n) = some b ∧ P (.bl b) m
  | [d, .ref C] => ∃ t b, tyD K m d t ∧ PySem.W.kitOne K t (.ref C) = some b ∧ P (.bl b) m
  | _ => False
theorem lc_isi : LC X (.builtin "isinstance") (rhoIsi X.K) := by
  refine ⟨_, call_isi, fun ds vs H m P Q o i h hq => ?_⟩
  match ds, h with
  | [d, .ty n], h =>
    obtain ⟨v, w, rfl, iv, iw⟩ := iss2 i
    obtain ⟨t, b, h1, h2, h3⟩ := h
    obtain rfl := is_ty.mp iw
    exact ⟨v, _, t, _, b, rfl, .ty n, tyX_of o iv h1, h2, hq _ m _ H h3 Step.refl o (is_bl.mpr rfl)⟩
  | [d, .ref C], h =>
    obtain ⟨v, w, rfl, iv, iw⟩ := iss2 i
    obtain ⟨t, b, h1, h2, h3⟩ := h
    obtain rfl := is_ref.mp iw
    exact ⟨v, _, t, _, b, rfl, .own C, tyX_of o iv h1, h2, hq _ m _ H h3 Step.refl o (is_bl.mpr rfl)⟩
/-! ### methods of built-ins -/
def sBM (ty : D → Mem → Prop) (ρ : D → List D → Mem → PD → Prop) (so : SE) (sa : SA) : SE := fun Γ m P => so Γ m fun d m1 => ty d m1 ∧ sa Γ m1 fun ds m2 => ρ d ds m2 P
def isStrD (d : D) (_ : Mem) : Prop := match d with
  | .str _ => True
  | _ => False
def isLstM (d : D) (m : Mem) : Prop := match d with
  | .ref a => ∃ ds, m a = some (.lst ds)
  | _ => False
theorem lift_bm {K : PySem.W.Frag} {T : String} {r : V → List V → Hp → VK → Prop} {to : TE} {t : TA} {ty : D → Mem → Prop} {ρ : D → List D → Mem → PD → Prop}
    (hty : ∀ d m H v, ty d m → MOk K H m → Is K H m d v → tyV K T v H)
    (lr : ∀ (d : D) (ds : List D) (v : V) (vs : List V) (H : Hp) (m : Mem) (P : PD) (Q : VK), MOk K H m → Is K H m d v → Iss K H m ds vs → ρ d ds m P → KE K H m P Q → r v vs H Q) (lo : LiftE K to so) (l : LiftA K t sa) :
    LiftE K (tBM K T r to t) (sBM ty ρ so sa) := by
  intro σ H Γ m P Q hs hm h hq
  refine lo σ H Γ m _ _ hs hm h fun d m1 v H1 h1 s1 o1 i1 => ⟨hty d m1 H1 v h1.1 o1 i1, ?_⟩
  refine l σ H1 Γ m1 _ _ (hs.step s1) o1 h1.2 fun ds m2 vs H2 h2 s2 o2 i2 => ?_
  exact lr d ds v vs H2 m2 P Q o2 (i1.step s2) i2 h2 (hq.step (s1.trans s2))
theorem tyStr {K : PySem.W.Frag} : ∀ d m H v, isStrD d m → MOk K H m → Is K H m d v → tyV K "str" v H := fun d m H v h o i => by
  cases d with
  | str z => rw [is_str.mp i]; exact rfl
  | _ => exact (show False from h).elim
theorem tyLst {K : PySem.W.Frag} : ∀ d m H v, isLstM d m → MOk K H m → Is K H m d v → tyV K "list" v H := fun d m H v h o i => by
  cases d with
  | ref a =>
    obtain ⟨ds, h⟩ := h
    obtain ⟨vs, ha, _⟩ := o a _ h
    rw [is_ref.mp i]
    exact .inl ⟨rfl, vs, SqL.of ha⟩
  | _ => exact (show False from h).elim
/-- x.split(sep): a list that will not change -/
def rhoSplit : D → List D → Mem → PD → Prop := fun d ds m P => match d, ds with
  | .str a, [.str b] => b.length ≠ 0 ∧ a.length ≤ 1000000 ∧ P (.lst ((Txt.split a b).map .str)) m
  | _, _ => False
theorem le_split (ho : LE X o so) (ha : LA X [e] sa) (hbase : attributeBase o "split" X.env (eval o X.env) = eval o X.env := by rfl) (hline : (apos.endLine == pos.line) = true := by rfl)
    (hfew : ((backTo pos (starEach [e] X.env)).all (fun x => !x.1) && (backToKw pos (keywordEach [] X.env)).all (fun x => x.1.isSome) && decide (([e] : List Expr).length + ([] : List Keyword).length + (if ([] : List Keyword).isEmpty then 0 else 1) < 30)) = true := by rfl)
    (hs : starEach [e] X.env = (false, eval e X.env) :: starEach [] X.env := by rfl) (hplain : (backTo pos (starEach [] X.env)).any (·.1) = false := by rfl) : LE X (.Call (.Attribute o "split" apos) [e] [] pos) (sBM isStrD rhoSplit so sa) := by
  obtain ⟨t, pt, l⟩ := ho
  obtain ⟨u, pu, l'⟩ := ha
  refine ⟨_, pe_bm F.plainAttrs_str F.slot_str_split F.type_str_split mt_split pt pu hbase hfew hline hs hplain, lift_bm tyStr (fun d ds v vs H m P Q o i is h hq => ?_) l l'⟩
  match d, ds, h with
  | .str a, [.str b], h =>
    obtain ⟨w, rfl, iw⟩ := iss1 is
    obtain rfl := is_str.mp i
    obtain rfl := is_str.mp iw
    refine ⟨a, b, rfl, rfl, by simpa using h.1, ?_, fun q hq' => ?_⟩
    · have h7 : sizeLine = 16777216 := sizeLine_eq
      have := h.2.1
      omega
    · exact hq _ m _ _ h.2.2 (Step.new hq') (o.new hq') (newLst o hq' (iss_strs _))
/-- sep.join(a list or a tuple of texts) -/
def rhoJoin : D → List D → Mem → PD → Prop := fun d ds m P => match d, ds with
  | .str a, [y] => ∃ ys : List Str, asQ m y (ys.map .str) ∧ (ys.map (·.length)).sum + ys.length * a.length ≤ 16777216 ∧ P (.str (Txt.join a ys)) m
  | _, _ => False
theorem le_join (ho : LE X o so) (ha : LA X [e] sa) (hbase : attributeBase o "join" X.env (eval o X.env) = eval o X.env := by rfl) (hline : (apos.endLine == pos.line) = true := by rfl)
    (hfew : ((backTo pos (starEach [e] X.env)).all (fun x => !x.1) && (backToKw pos (keywordEach [] X.env)).all (fun x => x.1.isSome) && decide (([e] : List Expr).length + ([] : List Keyword).length + (if ([] : List Keyword).isEmpty then 0 else 1) < 30)) = true := by rfl)
    (hs : starEach [e] X.env = (false, eval e X.env) :: starEach [] X.env := by rfl) (hplain : (backTo pos (starEach [] X.env)).any (·.1) = false := by rfl) : LE X (.Call (.Attribute o "join" apos) [e] [] pos) (sBM isStrD rhoJoin so sa) := by
  obtain ⟨t, pt, l⟩ := ho
  obtain ⟨u, pu, l'⟩ := ha
  refine ⟨_, pe_bm F.plainAttrs_str F.slot_str_join F.type_str_join mt_join pt pu hbase hfew hline hs hplain, lift_bm tyStr (fun d ds v vs H m P Q o i is h hq => ?_) l l'⟩
  match d, ds, h with
  | .str a, [y], h =>
    obtain ⟨w, rfl, iw⟩ := iss1 is
    obtain rfl := is_str.mp i
    obtain ⟨ys, h1, h2, h3⟩ := h
    obtain ⟨b, ws, rfl, hb, ib⟩ := asQ_ok o h1 iw
    obtain rfl := ib.strs
    exact ⟨a, b, ys, rfl, rfl, hb, h2, hq _ m _ H h3 Step.refl o (is_str.mpr rfl)⟩
/-- l.append(x) -/
def rhoApp : D → List D → Mem → PD → Prop := fun d ds m P => match d, ds with
  | .ref a, [x] => ∃ xs, m a = some (.lst xs) ∧ xs.length < 1000000 ∧ P .non (mset m a (.lst (xs ++ [x])))
  | _, _ => False
theorem le_append (ho : LE X o so) (ha : LA X [e] sa) (hbase : attributeBase o "append" X.env (eval o X.env) = eval o X.env := by rfl) (hline : (apos.endLine == pos.line) = true := by rfl)
    (hfew : ((backTo pos (starEach [e] X.env)).all (fun x => !x.1) && (backToKw pos (keywordEach [] X.env)).all (fun x => x.1.isSome) && decide (([e] : List Expr).length + ([] : List Keyword).length + (if ([] : List Keyword).isEmpty then 0 else 1) < 30)) = true := by rfl)
    (hs : starEach [e] X.env = (false, eval e X.env) :: starEach [] X.env := by rfl) (hplain : (backTo pos (starEach [] X.env)).any (·.1) = false := by rfl) : LE X (.Call (.Attribute o "append" apos) [e] [] pos) (sBM isLstM rhoApp so sa) := by
  obtain ⟨t, pt, l⟩ := ho
  obtain ⟨u, pu, l'⟩ := ha
  refine ⟨_, pe_bm F.plainAttrs_list F.slot_list_append F.type_list_append mt_append pt pu hbase hfew hline hs hplain, lift_bm tyLst (fun d ds v vs H m P Q o i is h hq => ?_) l l'⟩
  match d, ds, h with
  | .ref a, [x], h =>
    obtain ⟨w, rfl, iw⟩ := iss1 is
    obtain ⟨xs, h1, h2, h3⟩ := h
    obtain ⟨vs, ha, iv⟩ := o a _ h1
    have st : Step H m (upd H a (.lst (vs ++ [w]))) (mset m a (.lst (xs ++ [x]))) := Step.wr h1
    refine ⟨a, vs, w, is_ref.mp i, rfl, ha, ?_, hq _ _ _ _ h3 st (o.wr h1 ⟨_, upd_same, (Iss.step st _ iv).append (Iss.one (iw.step st))⟩) (is_non.mpr rfl)⟩
    rw [iv.length]
    exact Nat.lt_of_lt_of_le h2 (by decide)
/-- l.extend(l2) -/
def rhoExt : D → List D → Mem → PD → Prop := fun d ds m P => match d, ds with
  | .ref a, [.lst ys] => ∃ xs, m a = some (.lst xs) ∧ xs.length + ys.length ≤ 1000000 ∧ P .non (mset m a (.lst (xs ++ ys)))
  | _, _ => False
theorem le_extend (ho : LE X o so) (ha : LA X [e] sa) (hbase : attributeBase o "extend" X.env (eval o X.env) = eval o X.env := by rfl) (hline : (apos.endLine == pos.line) = true := by rfl)
    (hfew : ((backTo pos (starEach [e] X.env)).all (fun x => !x.1) && (backToKw pos (keywordEach [] X.env)).all (fun x => x.1.isSome) && decide (([e] : List Expr).length + ([] : List Keyword).length + (if ([] : List Keyword).isEmpty then 0 else 1) < 30)) = true := by rfl)
    (hs : starEach [e] X.env = (false, eval e X.env) :: starEach [] X.env := by rfl) (hplain : (backTo pos (starEach [] X.env)).any (·.1) = false := by rfl) : LE X (.Call (.Attribute o "extend" apos) [e] [] pos) (sBM isLstM rhoExt so sa) := by
  obtain ⟨t, pt, l⟩ := ho
  obtain ⟨u, pu, l'⟩ := ha
  refine ⟨_, pe_bm F.plainAttrs_list F.slot_list_extend F.type_list_extend mt_extend pt pu hbase hfew hline hs hplain, lift_bm tyLst (fun d ds v vs H m P Q o i is h hq => ?_) l l'⟩
  match d, ds, h with
  | .ref a, [.lst ys], h =>
    obtain ⟨w, rfl, iw⟩ := iss1 is
    obtain ⟨xs, h1, h2, h3⟩ := h
    obtain ⟨vs, ha, iv⟩ := o a _ h1
    obtain ⟨b, us, rfl, hb, _, iu⟩ := is_lst.mp iw
    have st : Step H m (upd H a (.lst (vs ++ us))) (mset m a (.lst (xs ++ ys))) := Step.wr h1
    refine ⟨a, b, vs, us, is_ref.mp i, rfl, ha, hb, ?_, hq _ _ _ _ h3 st (o.wr h1 ⟨_, upd_same, (Iss.step st _ iv).append (Iss.step st _ iu)⟩) (is_non.mpr rfl)⟩
    rw [iv.length, iu.length]
    exact line6 h2
/-- l.clear() -/
def sClear (so : SE) : SE := fun Γ m P => so Γ m fun d m1 => match d with
  | .ref a => ∃ xs, m1 a = some (.lst xs) ∧ P .non (mset m1 a (.lst []))
  | _ => False
theorem le_clear (ho : LE X o so) (hbase : attributeBase o "clear" X.env (eval o X.env) = eval o X.env := by rfl) (hline : (apos.endLine == pos.line) = true := by rfl) : LE X (.Call (.Attribute o "clear" apos) [] [] pos) (sClear so) := by
  obtain ⟨t, pt, l⟩ := ho
  refine ⟨_, pe_bm0 F.plainAttrs_list F.slot_list_clear F.type_list_clear mt_clear pt hbase hline, fun σ H Γ m P Q hs hm h hq => l σ H Γ m _ _ hs hm h fun d m1 v H1 h1 s1 o1 i1 => ?_⟩
  cases d with
  | ref a =>
    obtain ⟨xs, h1, h2⟩ := h1
    obtain ⟨vs, ha, iv⟩ := o1 a _ h1
    obtain rfl := is_ref.mp i1
    have st : Step H1 m1 (upd H1 a (.lst [])) (mset m1 a (.lst [])) := Step.wr h1
    exact ⟨.inl ⟨rfl, vs, SqL.of ha⟩, a, vs, rfl, rfl, ha, hq _ _ _ _ h2 (s1.trans st) (o1.wr h1 ⟨[], upd_same, iss_nil.mpr rfl⟩) (is_non.mpr rfl)⟩
  | _ => exact (show False from h1).elim
/-- T.index(x), T a tuple of texts of the module -/
def rhoTix (A : Addr) (ys : List Str) : D → List D → Mem → PD → Prop := fun d ds m P => match ds with
  | [.str z] => ∃ j, ys[j]? = some z ∧ (∀ k, k < j → ys[k]? ≠ some z) ∧ P (.int (j : Nat)) m
  | _ => False
theorem le_tindex {A : Addr} {ys : List Str} (ho : LE X o (sC (.ref A))) (hk : ∃ ob, X.K.lookup A = some ob ∧ ob.cls = .type "tuple" ∧ ob.dict = none) (hT : KTup X.K A (ys.map V.str)) (ha : LA X [e] sa) (hbase : attributeBase o "index" X.env (eval o X.env) = eval o X.env := by rfl) (hline : (apos.endLine == pos.line) = true := by rfl)
    (hfew : ((backTo pos (starEach [e] X.env)).all (fun x => !x.1) && (backToKw pos (keywordEach [] X.env)).all (fun x => x.1.isSome) && decide (([e] : List Expr).length + ([] : List Keyword).length + (if ([] : List Keyword).isEmpty then 0 else 1) < 30)) = true := by rfl)
    (hs : starEach [e] X.env = (false, eval e X.env) :: starEach [] X.env := by rfl) (hplain : (backTo pos (starEach [] X.env)).any (·.1) = false := by rfl) : LE X (.Call (.Attribute o "index" apos) [e] [] pos) (sBM (fun d _ => d = .ref A) (rhoTix A ys) (sC (.ref A)) sa) := by
  obtain ⟨t, pt, l⟩ := ho
  obtain ⟨u, pu, l'⟩ := ha
  refine ⟨_, pe_bm F.plainAttrs_tuple F.slot_tuple_index F.type_tuple_index mt_tup_index pt pu hbase hfew hline hs hplain, fun σ H Γ m P Q hs hm h hq => l σ H Γ m _ _ hs hm h fun d m1 v H1 h1 s1 o1 i1 => ?_⟩
  obtain ⟨rfl, h1⟩ := h1
  obtain rfl := is_ref.mp i1
  refine ⟨.inr (.inl ⟨rfl, hk⟩), l' σ H1 Γ m1 _ _ (hs.step s1) o1 h1 fun ds m2 vs H2 h2 s2 o2 i2 => ?_⟩
  match ds, h2 with
  | [.str z], h2 =>
    obtain ⟨w, rfl, iw⟩ := iss1 i2
    obtain rfl := is_str.mp iw
    obtain ⟨j, h3, h4, h5⟩ := h2
    exact ⟨A, ys, z, j, rfl, rfl, .inr hT, h3, h4, hq _ m2 _ H2 h5 (s1.trans s2) o2 (is_int.mpr rfl)⟩
/-! ### f-strings -/
/-- {x}: a text or an int -/
def sFmt (s : SE) : SE := fun Γ m P => s Γ m fun d m1 => match d with
  | .str y => y.length ≤ 1000000 ∧ P (.str y) m1
  | .int i => i.natAbs < 1000000 ∧ P (.str (toString i : String)) m1
  | _ => False
theorem le_fmt (h : LE X e se) : LE X (.FormattedValue e (-1) none pos) (sFmt se) := by
  obtain ⟨t, pt, l⟩ := h
  refine ⟨_, pe_fmt pt, fun σ H Γ m P Q hs hm h hq => l σ H Γ m _ _ hs hm h fun d m1 v H1 h1 s1 o1 i1 => ?_⟩
  cases d with
  | str y => exact .inl ⟨y, is_str.mp i1, line6 h1.1, hq _ m1 _ H1 h1.2 s1 o1 (is_str.mpr rfl)⟩
  | int k => exact .inr ⟨k, is_int.mp i1, small_log h1.1, hq _ m1 _ H1 h1.2 s1 o1 (is_str.mpr rfl)⟩
  | _ => exact (show False from h1).elim
/-- the parts, texts, one behind the other -/
def sJs : List SE → Str → GEnv → Mem → (Str → Mem → Prop) → Prop
  | [], acc, _, m, P => P acc m
  | s :: ss, acc, Γ, m, P => s Γ m fun d m1 => match d with
    | .str y => (acc ++ y).length ≤ 1000000 ∧ sJs ss (acc ++ y) Γ m1 P
    | _ => False
def LJ (X : Cx) (es : List Expr) (ss : List SE) : Prop := ∃ ts, PJ X es ts ∧ ∀ (acc : Str) (σ : St) (H : Hp) (Γ : GEnv) (m : Mem) (P : Str → Mem → Prop) (Q : Str → Hp → Prop), Slots X.K H m σ Γ → MOk X.K H m → sJs ss acc Γ m P →
  (∀ b m' H', P b m' → Step H m H' m' → MOk X.K H' m' → Q b H') → tJs ts acc σ H Q
theorem lj_nil : LJ X [] [] := ⟨[], .nil, fun acc σ H Γ m P Q hs hm h hq => hq acc m H h Step.refl hm⟩
theorem lj_cons {ss : List SE} (h : LE X e se) (r : LJ X es ss) : LJ X (e :: es) (se :: ss) := by
  obtain ⟨t, pt, l⟩ := h
  obtain ⟨ts, pj, l'⟩ := r
  refine ⟨t :: ts, .cons pt pj, fun acc σ H Γ m P Q hs hm h hq => l σ H Γ m _ _ hs hm h fun d m1 v H1 h1 s1 o1 i1 => ?_⟩
  cases d with
  | str y => exact ⟨y, is_str.mp i1, line6 h1.1, l' _ σ H1 Γ m1 P Q (hs.step s1) o1 h1.2 fun b m2 H2 h2 s2 o2 => hq b m2 H2 h2 (s1.trans s2) o2⟩
  | _ => exact (show False from h1).elim
def sJoined (ss : List SE) : SE := fun Γ m P => sJs ss Str.empty Γ m fun out m1 => P (.str out) m1
theorem le_joined {v1 v2 : Expr} {rest : List Expr} {ss : List SE} (h : LJ X (v1 :: v2 :: rest) ss) : LE X (.JoinedStr (v1 :: v2 :: rest) pos) (sJoined ss) := by
  obtain ⟨ts, pj, l⟩ := h
  exact ⟨_, pe_joined pj, fun σ H Γ m P Q hs hm h hq => l Str.empty σ H Γ m _ _ hs hm h fun b m1 H1 h1 s1 o1 => hq _ m1 _ H1 h1 s1 o1 (is_str.mpr rfl)⟩
theorem le_joined1 (h : LE X e se) : LE X (.JoinedStr [e] pos) se := by
  obtain ⟨t, pt, l⟩ := h
  exact ⟨t, pe_joined1 pt, l⟩
end
end HB
set_option Elab.async false
set_option linter.all false
set_option maxRecDepth 100000
set_option maxHeartbeats 4000000
/-! own operators on instances -/
namespace HB
open PySem L2
section
variable {X : Cx} {pins : List (Addr × Obj)} {σ : L2.St} {H : Hp} {s : Shared} {k : Nat} {f C : Addr} {T : PT1} {g : Bool}
theorem run_fnQ_at {A' : Around} {Q : VK} {us : List Value} {vs : List V} (F : FnQ g X.prog X.w X.K X.mg X.base k f T) (hr : Room k A') (hf : A'.frames = X.A.frames) (hg : g = true → A'.guards = some []) (I : Inv X pins σ H s) (r : Vals vs us) (h : SpG X.K T vs H Q)
    {E : Value → Shared → Prop} : wpAny (model X.prog X.w) A' (call (.ref f) us) (EP X pins σ Q) E s := by
  have e := I.env0
  have e0 : Env0 X.prog X.w X.K X.mg X.base A' X.stack s H := ⟨by rw [hf]; exact e.frames, e.mod, e.bs, e.bsz, e.funs, e.frf, e.hok, e.bare⟩
  refine wpAny_call (codeAny_mono (F A' X.stack s H us vs Q hr hg e0 r h) fun r s' hq => ?_)
  cases r with
  | error e => exact False.elim hq
  | ok fl =>
    cases fl with
    | ret u => exact I.after hq
    | next => exact False.elim hq
    | brk => exact False.elim hq
    | cont => exact False.elim hq
theorem relRef (a : Addr) : RelV (.ref a) (.ref a) := rfl
theorem cmpBack_of {Q : Value → Shared → Prop} {v : V} {u : Value} {s' : Shared} (r : RelV v u) (q : Q u s') : PySem.W.CmpBack Q u s' := by
  cases v with
  | int i => obtain ⟨t, rfl⟩ := r; exact q
  | str i => obtain ⟨t, rfl⟩ := r; exact q
  | byt i => obtain ⟨t, rfl⟩ := r; exact q
  | flt i => obtain ⟨t, rfl⟩ := r; exact q
  | _ => (cases r; exact q)
theorem cmp_back {Q : VK} {u : Value} {s' : Shared} (h : EP X pins σ Q u s') : PySem.W.CmpBack (EP X pins σ Q) u s' := by
  obtain ⟨v, H', I, r, q⟩ := h
  exact cmpBack_of r ⟨v, H', I, r, q⟩
/-- the class C has the def at f under that name -/
structure OwnM (K : PySem.W.Frag) (C : Addr) (name : Str) (f : Addr) : Prop where
  at_ : PySem.W.findIn K (.ref C) name = some (some (.ref f))
  fn : PySem.W.isFn K (.ref f) = true
theorem inst_of {a dx : Addr} {fs : List (Str × V)} (I : Inv X pins σ H s) (e : H a = some (.ins C dx fs)) : ∃ od, PySem.W.InstAt s.heap a (PySem.W.instObj C dx) C (some od) := by
  obtain ⟨mA, O, _⟩ := ins_get I.hok e
  obtain ⟨od, J, _⟩ := O.look
  exact ⟨od, J⟩
/-! ~x -/
def sInv (G : Addr → Prop) (T : PT1) (so : SE) : SE := fun Γ m P => so Γ m fun d m1 => (∃ C fs, asO m1 d C fs ∧ G C) ∧ T [d] m1 P
theorem le_inv {G : Addr → Prop} {o : Expr} {pos : Pos} {so : SE} (hG : ∀ C, G C → OwnM X.K C "__invert__" f) (F : FnQ false X.prog X.w X.K X.mg X.base k f T) (hr : Room k X.A) (ho : LE X o so) : LE X (.UnaryOp .Invert o pos) (sInv G T so) := by
  obtain ⟨t, pt, l⟩ := ho
  refine ⟨tUn (fun x H Q => (∃ a C dx fs, x = .ref a ∧ H a = some (.ins C dx fs) ∧ G C) ∧ SpG X.K T [x] H Q) t, pe_un (fun pins s σ H x v Q I rx h => ?_) pt, fun σ H Γ m P Q hs hm h hq => l σ H Γ m _ _ hs hm h fun d m1 v H1 h1 s1 o1 i1 => ?_⟩
  · obtain ⟨⟨a, C, dx, fs, rfl, ea, hg⟩, h⟩ := h
    obtain rfl : v = Value.ref a := rx
    obtain ⟨od, J⟩ := inst_of I ea
    obtain ⟨mf, hF⟩ := I.fr
    exact PySem.W.ksp_inv hF I.ok.mod.kin J (hG C hg).at_ (hG C hg).fn (run_fnQ_at F hr rfl (fun q => nomatch q) I (.cons (relRef _) .nil) h)
  · obtain ⟨⟨C, fs, ha, hg⟩, h1⟩ := h1
    obtain ⟨a, dx, gs, rfl, e1, r1⟩ := asO_ok o1 ha i1
    exact ⟨⟨a, C, dx, gs, rfl, e1, hg⟩, [d], m1, P, Iss.one i1, o1, h1, hq.step s1⟩
/-! len(x) -/
def rhoLenO (G : Addr → Prop) (T : PT1) : RhoA := fun ds m P => match ds with
  | [d] => (∃ C fs, asO m d C fs ∧ G C) ∧ T [d] m fun r m1 => ∃ n : Nat, r = .int n ∧ n < 1000000 ∧ P (.int n) m1
  | _ => False
theorem lc_lenO {G : Addr → Prop} (hG : ∀ C, G C → OwnM X.K C "__len__" f) (F : FnQ false X.prog X.w X.K X.mg X.base k f T) (hr : Room (k + 1) X.A) : LC X (.builtin "len") (rhoLenO G T) := by
  refine ⟨fun xs H Q => ∃ a C dx fs, xs = [.ref a] ∧ H a = some (.ins C dx fs) ∧ G C ∧ SpG X.K T xs H fun v H1 => ∃ n : Nat, v = .int n ∧ n < 1000000 ∧ Q (.int n) H1, fun pins s σ H xs us Q I r h => ?_, fun ds vs H m P Q o i h hq => ?_⟩
  · obtain ⟨a, C, dx, fs, rfl, ea, hg, h⟩ := h
    obtain ⟨u, rfl, ru⟩ := vals1 r
    obtain rfl : u = Value.ref a := ru
    obtain ⟨od, J⟩ := inst_of I ea
    obtain ⟨mf, hF⟩ := I.fr
    refine PySem.W.len_K hF I.ok.mod.kin J (hG C hg).at_ (hG C hg).fn (wpAny_mono (run_fnQ_at F hr.in1 rfl (fun q => nomatch q) I (.cons (relRef _) .nil) h) (fun u s' q => ?_) fun _ _ q => q)
    obtain ⟨v, H', I', rv, n, rfl, hn, q⟩ := q
    obtain ⟨t, rfl⟩ := rv
    exact ⟨⟨by omega, by omega⟩, .int n, H', I'.tok _, ⟨_, rfl⟩, q⟩
  · match ds, h with
    | [d], h =>
      obtain ⟨v, rfl, iv⟩ := iss1 i
      obtain ⟨⟨C, fs, ha, hg⟩, h⟩ := h
      obtain ⟨a, dx, gs, rfl, e1, r1⟩ := asO_ok o ha iv
      refine ⟨a, C, dx, gs, rfl, e1, hg, [d], m, _, i, o, h, fun d' m1 v' H1 h1 s1 o1 i1 => ?_⟩
      obtain ⟨n, rfl, hn, h1⟩ := h1
      exact ⟨n, is_int.mp i1, hn, hq _ m1 _ H1 h1 s1 o1 (is_int.mpr rfl)⟩
/-! str(x) -/
def rhoStrO (G : Addr → Prop) (T : PT1) : RhoA := fun ds m P => match ds with
  | [d] => (∃ C fs, asO m d C fs ∧ G C) ∧ T [d] m fun r m1 => ∃ z : Str, r = .str z ∧ P (.str z) m1
  | _ => False
theorem lc_strO {G : Addr → Prop} (hG : ∀ C, G C → OwnM X.K C "__str__" f) (F : FnQ false X.prog X.w X.K X.mg X.base k f T) (hr : Room (k + 2) X.A) : LC X (.type "str") (rhoStrO G T) := by
  refine ⟨fun xs H Q => ∃ a C dx fs, xs = [.ref a] ∧ H a = some (.ins C dx fs) ∧ G C ∧ SpG X.K T xs H fun v H1 => ∃ z : Str, v = .str z ∧ Q (.str z) H1, fun pins s σ H xs us Q I r h => ?_, fun ds vs H m P Q o i h hq => ?_⟩
  · obtain ⟨a, C, dx, fs, rfl, ea, hg, h⟩ := h
    obtain ⟨u, rfl, ru⟩ := vals1 r
    obtain rfl : u = Value.ref a := ru
    obtain ⟨od, J⟩ := inst_of I ea
    refine PySem.W.kso_call (by have := hr.un; show X.A.units + 1 + 1 < _; omega) I.kIn J (hG C hg).at_ (hG C hg).fn (wpAny_mono (run_fnQ_at F hr.in1.in1 rfl (fun q => nomatch q) I (.cons (relRef _) .nil) h) (fun u s' q => ?_) fun _ _ q => q)
    obtain ⟨v, H', I', rv, z, rfl, q⟩ := q
    obtain ⟨t, rfl⟩ := rv
    exact ⟨.str z, H', I', ⟨_, rfl⟩, q⟩
  · match ds, h with
    | [d], h =>
      obtain ⟨v, rfl, iv⟩ := iss1 i
      obtain ⟨⟨C, fs, ha, hg⟩, h⟩ := h
      obtain ⟨a, dx, gs, rfl, e1, r1⟩ := asO_ok o ha iv
      refine ⟨a, C, dx, gs, rfl, e1, hg, [d], m, _, i, o, h, fun d' m1 v' H1 h1 s1 o1 i1 => ?_⟩
      obtain ⟨z, rfl, h1⟩ := h1
      exact ⟨z, is_str.mp i1, hq _ m1 _ H1 h1 s1 o1 (is_str.mpr rfl)⟩
/-! x in y, y an instance -/
def rhoInO (G : Addr → Prop) (T : PT1) : Rho := fun dx dy m P => (∃ C fs, asO m dy C fs ∧ G C) ∧ T [dy, dx] m fun r m1 => ∃ b : Bool, r = .bl b ∧ P (.bl b) m1
theorem lo_inO {G : Addr → Prop} (hG : ∀ C, G C → OwnM X.K C "__contains__" f) (F : FnQ false X.prog X.w X.K X.mg X.base k f T) (hr : Room k X.A) : LOp X (compareOp .In) (rhoInO G T) := by
  refine ⟨fun x y H Q => ∃ a C dx fs, y = .ref a ∧ H a = some (.ins C dx fs) ∧ G C ∧ SpG X.K T [y, x] H fun v H1 => ∃ b : Bool, v = .bl b ∧ Q (.bl b) H1, fun pins s σ H x y v u Q I rx ry h => ?_, fun x y dx dy H m P Q o ix iy h hq => ?_⟩
  · obtain ⟨a, C, dx, fs, rfl, ea, hg, h⟩ := h
    obtain rfl : u = Value.ref a := ry
    obtain ⟨od, J⟩ := inst_of I ea
    obtain ⟨mf, hF⟩ := I.fr
    refine PySem.W.in_K hF I.ok.mod.kin J (hG C hg).at_ (hG C hg).fn (wpAny_mono (run_fnQ_at F hr rfl (fun q => nomatch q) I (.cons (relRef _) (.cons rx .nil)) h) (fun u s' q => ?_) fun _ _ q => q)
    obtain ⟨v, H', I', rv, b, rfl, q⟩ := q
    obtain rfl := rv
    exact wpAny_truthy_bool ⟨.bl b, H', I', rfl, q⟩
  · obtain ⟨⟨C, fs, ha, hg⟩, h⟩ := h
    obtain ⟨a, dx', gs, rfl, e1, r1⟩ := asO_ok o ha iy
    refine ⟨a, C, dx', gs, rfl, e1, hg, [dy, dx], m, _, iss_cons.mpr ⟨_, _, rfl, iy, Iss.one ix⟩, o, h, fun d' m1 v' H1 h1 s1 o1 i1 => ?_⟩
    obtain ⟨b, rfl, h1⟩ := h1
    exact ⟨b, is_bl.mp i1, hq _ m1 _ H1 h1 s1 o1 (is_bl.mpr rfl)⟩
/-! x == y, x an instance of C, y of D: y's first where D stands below C -/
theorem cmp_left {A : Around} {E : Value → Shared → Prop} {x y C D : Addr} {ox oy : Obj} {od ody : Option Obj} {Q : Value → Shared → Prop} (hu : A.units < cLine) (X₀ : X.K.In s.heap) (I : PySem.W.InstAt s.heap x ox C od) (J : PySem.W.InstAt s.heap y oy D ody)
    (hne : (Value.ref C != Value.ref D) = true) (hsub : PySem.W.subIn X.K (.ref D) (.ref C) = some true) (h2 : OwnM X.K D "__eq__" f)
    (h : wpAny (model X.prog X.w) A (call (.ref f) [.ref y, .ref x]) (PySem.W.CmpBack Q) E s) : wpAny (model X.prog X.w) A (richCompare .Eq (.ref x) (.ref y)) Q E s := by
  have one : wpAny (model X.prog X.w) A (tryCompare (.ref y) "__eq__" (.ref x)) (fun r s' => ∃ v, r = some v ∧ Q v s') E s := by
    unfold tryCompare
    refine wpAny_bind (PySem.W.ifBound_K X₀ J h2.at_ h2.fn (wpAny_mono h (fun v s' hv => ?_) fun _ _ e => e))
    cases v <;> first | exact hv.elim | exact wpAny_pure ⟨_, rfl, hv⟩
  unfold richCompare
  simp only [oneThing_ref]
  refine wpAny_holding (wpAny_bind (wpAny_cRoomFor hu ?_))
  refine wpAny_bind (I.type.here (wpAny_bind (J.type.here ?_)))
  rw [if_pos hne]
  refine wpAny_bind ((PySem.W.looks_subIn X₀ hsub).here ?_)
  rw [if_pos rfl]
  refine wpAny_bind (wpAny_mono one (fun r s' z => ?_) fun _ _ e => e)
  obtain ⟨v, rfl, hq⟩ := z
  exact wpAny_bind (wpAny_rule (wpAny_pure (by first | exact hq | exact wpAny_pure hq)))
def rhoEqO (G : Addr → Addr → Bool → Prop) (T : PT1) : Rho := fun dx dy m P => ∃ C D fs gs b, asO m dx C fs ∧ asO m dy D gs ∧ G C D b ∧ T (if b then [dy, dx] else [dx, dy]) m P
theorem lo_eqO {G : Addr → Addr → Bool → Prop} (hG : ∀ C D b, G C D b → OwnM X.K C "__eq__" f ∧ OwnM X.K D "__eq__" f ∧ (b = true → (Value.ref C != Value.ref D) = true ∧ PySem.W.subIn X.K (.ref D) (.ref C) = some true) ∧ (b = false → PySem.W.notFirst X.K C (.ref D) = true))
    (F : FnQ false X.prog X.w X.K X.mg X.base k f T) (hr : Room k X.A) : LOp X (compareOp .Eq) (rhoEqO G T) := by
  refine ⟨fun x y H Q => ∃ a a' C D dx dy fs gs b, x = .ref a ∧ y = .ref a' ∧ H a = some (.ins C dx fs) ∧ H a' = some (.ins D dy gs) ∧ G C D b ∧ SpG X.K T (if b = true then [y, x] else [x, y]) H Q, fun pins s σ H x y v u Q I rx ry h => ?_, fun x y dx dy H m P Q o ix iy h hq => ?_⟩
  · obtain ⟨a, a', C, D, dx, dy, fs, gs, b, rfl, rfl, ea, ea', hg, h⟩ := h
    obtain rfl : v = Value.ref a := rx
    obtain rfl : u = Value.ref a' := ry
    obtain ⟨od, J⟩ := inst_of I ea
    obtain ⟨od', J'⟩ := inst_of I ea'
    obtain ⟨mf, hF⟩ := I.fr
    obtain ⟨g1, g2, g3, g4⟩ := hG C D b hg
    show wpAny (model X.prog X.w) X.A (richCompare .Eq (.ref a) (.ref a')) (EP X pins σ Q) X.xe s
    cases b with
    | true =>
      refine cmp_left hr.units0 I.kIn J J' (g3 rfl).1 (g3 rfl).2 g2 (wpAny_mono (run_fnQ_at F hr rfl (fun q => nomatch q) I (.cons (relRef _) (.cons (relRef _) .nil)) h) (fun u s' q => cmp_back q) fun _ _ q => q)
    | false =>
      exact PySem.W.cmp_K (op := .Eq) hr.units0 hF I.ok.mod.kin J J'.type (g4 rfl) g1.at_ g1.fn (wpAny_mono (run_fnQ_at F hr rfl (fun q => nomatch q) I (.cons (relRef _) (.cons (relRef _) .nil)) h) (fun u s' q => cmp_back q) fun _ _ q => q)
  · obtain ⟨C, D, fs, gs, b, ha, ha', hg, h⟩ := h
    obtain ⟨a, dx', fs', rfl, e1, r1⟩ := asO_ok o ha ix
    obtain ⟨a', dy', gs', rfl, e2, r2⟩ := asO_ok o ha' iy
    refine ⟨a, a', C, D, dx', dy', fs', gs', b, rfl, rfl, e1, e2, hg, _, m, P, ?_, o, h, hq⟩
    cases b with
    | true => exact iss_cons.mpr ⟨_, _, rfl, iy, Iss.one ix⟩
    | false => exact iss_cons.mpr ⟨_, _, rfl, ix, Iss.one iy⟩
end
end HB
set_option Elab.async false
set_option linter.all false
set_option maxRecDepth 100000
set_option maxHeartbeats 4000000
/-! the own | on instances -/
namespace HB
open PySem PySem.W
section
variable {prog : Program} {w : World} {A : Around} {E : Value → Shared → Prop} {s : Shared} {K : Frag} {x y C D L f f' : Addr} {h₀ : Heap} {m : Str → Option Value} {ox oy : Obj} {od ody : Option Obj}
theorem or_two {op : Operator} {Q : Value → Shared → Prop} (X : K.In s.heap) (I : InstAt s.heap x ox C od) (J : InstAt s.heap y oy D ody) (hc : selfFirst K C = true) (hd : selfFirst K D = true)
    (hs : findIn K (.ref C) (PySem.dunder op.info.2) = some (some (.ref f))) (hf : isFn K (.ref f) = true) (hr : findIn K (.ref C) (dunderR op.info.2) = some none)
    (hs' : findIn K (.ref D) (PySem.dunder op.info.2) = some (some (.ref f'))) (hr' : findIn K (.ref D) (dunderR op.info.2) = some none) (hne : (Value.ref C == Value.ref D) = false) (hsub : subIn K (.ref D) (.ref C) = some false)
    (h : wpAny (model prog w) A (call (.ref f) [.ref x, .ref y]) (CmpBack Q) E s) : wpAny (model prog w) A (binaryOp op (.ref x) (.ref y)) Q E s := by
  obtain ⟨cd, rest, hcd, hm⟩ := ksp_first hc
  obtain ⟨cd', rest', hcd', hm'⟩ := ksp_first hd
  rcases hi : op.info with ⟨sym, nm'⟩
  rw [hi] at hs hr hs' hr'
  dsimp only at hs hr hs' hr'
  have one := ksp_try X I hs hf h
  obtain ⟨hh, g, d, tt, os⟩ := s
  have L1 : Looks (model prog w) hh (typeOf (.ref x)) (.ref C) := I.type
  have L2 : Looks (model prog w) hh (typeOf (.ref y)) (.ref D) := J.type
  have L3 : Looks (model prog w) hh (fillsNumberSlot (.ref C) nm') true := fills_K X hcd hm hs
  have L4 : Looks (model prog w) hh (fillsNumberSlot (.ref D) nm') true := fills_K X hcd' hm' hs'
  have L5 : Looks (model prog w) hh (isSubtype (.ref D) (.ref C)) false := looks_subIn X hsub
  have L6 : Looks (model prog w) hh (numberSlotInPython (.ref C) nm') true := ksp_inPy X hs hr (.inl rfl)
  have L7 : Looks (model prog w) hh (numberSlotInPython (.ref D) nm') true := ksp_inPy X hs' hr' (.inl rfl)
  simp only [binaryOp, hi]
  refine wpAny_holding (wpAny_bind ?_)
  unfold binaryOp1
  refine wpAny_bind (L1.at (wpAny_bind (L2.at (wpAny_bind (L3.at ?_)))))
  simp only [hne, Bool.false_eq_true, if_false]
  ksp_lk
  refine wpAny_mono one (fun r s' hr' => ?_) fun _ _ e => e
  obtain ⟨v, rfl, hq⟩ := hr'
  ksp_lk
  exact hq
end
end HB
set_option Elab.async false
set_option linter.all false
set_option maxRecDepth 100000
set_option maxHeartbeats 4000000
/-! the own | where the right class stands below the left one -/
namespace HB
open PySem PySem.W PySem.Calls PyProof.Rows Builtin
/-- type.__ror__ bound to a class -/
abbrev mw (D : Addr) : Obj := { cls := .type "method-wrapper", dict := none, data := .fields #[.builtin "type.__ror__", .ref D], slots := #[] }
theorem ror_type : fastLookup "type" "__ror__" = some (some (.builtin "type.__ror__")) := by decide +kernel
theorem slot_mwne : Slot "method-wrapper" "__ne__" "method-wrapper.__ne__" :=
  .of (owner := "method-wrapper") (n := "__ne__") (by rw [typeLookup_type, builtinLookup_eq_fast]; kernel_rfl) (by decide +kernel) (by decide +kernel) (by decide +kernel)
    (by first | exact .inl (by decide +kernel) | exact .inr (by decide +kernel)) (by rw [isSubtype_type]; kernel_rfl)
theorem entry_mwne : entryFor table "method-wrapper.__ne__" = some Builtin.«method_wrapper.__ne__» :=
  entryFor_alias (id' := "method_wrapper.__ne__") (by rw [fastTable_eq_tree]; kernel_rfl) (by decide +kernel) (by decide +kernel) (by rw [fastTable_eq_tree]; kernel_rfl)
theorem args_mwne (a b : Value) : argsOk "method-wrapper.__ne__" ⟨[a, b], []⟩ := by unfold argsOk; kernel_rfl
theorem type_ror : typeOf (.builtin "type.__ror__") = pure (.type "wrapper_descriptor") := by show builtinType _ = _; rw [builtinType_eq_fast]; kernel_rfl
theorem nac_ror : (kfb_private% "nameAndClass") (Value.builtin "type.__ror__") = (pure (("__ror__" : Str), Value.type "type") : Sem (Str × Value)) := by kernel_rfl
section
variable {prog : Program} {w : World} {M : Model} {A : Around} {E : Value → Shared → Prop} {h : Heap} {g : Array GenState} {d : Drawn} {t : Nat} {os : OsState}
theorem run_wd2 {D : Addr} {P : Fin → Shared → Prop} (hin : Looks M h (isInstance (.ref D) (.type "type")) true) (hq : P (.done (.ret (.ref h.objs.size))) ⟨h.push (mw D), g, d, t, os⟩) :
    wpAny M A (Builtin.«wrapper_descriptor.__get__» ⟨[.builtin "type.__ror__", .ref D, .type "type"], []⟩) P E ⟨h, g, d, t, os⟩ := by
  unfold Builtin.«wrapper_descriptor.__get__»
  refine wpAny_bind (wpAny_of_eq (a := (.builtin "type.__ror__", some (.ref D), some (.type "type"))) (by first | rfl | kernel_rfl) ?_)
  show wpAny M A ((kfb_private% "checkInstance") (.builtin "type.__ror__") (.ref D) >>= fun _ => newFields "method-wrapper" [.builtin "type.__ror__", .ref D] >>= fun r => ret r) P E _
  refine wpAny_bind ?_
  show wpAny M A ((kfb_private% "nameAndClass") (.builtin "type.__ror__") >>= _) _ E _
  refine wpAny_bind (wpAny_of_eq nac_ror ?_)
  show wpAny M A (isInstance (.ref D) (.type "type") >>= _) _ E _
  refine wpAny_bind (hin.at ?_)
  refine KFB.if_not rfl ?_
  refine wpAny_pure ?_
  exact wpAny_bind (wpAny_newObj_type (wpAny_pure hq))
end
section
variable {prog : Program} {w : World} {A : Around} {E : Value → Shared → Prop} {s : Shared} {K : Frag} {D : Addr}
theorem find_ror (hr : findIn K (.ref D) "__ror__" = some none) : findCls K (.ref D) (.type "type") "__ror__" = some (.get (.builtin "wrapper_descriptor.__get__") (.builtin "type.__ror__") (.ref D) (.type "type")) := by
  have h1 : findIn K (.type "type") "__ror__" = some (some (.builtin "type.__ror__")) := ror_type
  have h2 : specialIn K (.builtin "type.__ror__") "__get__" = some (some (.builtin "wrapper_descriptor.__get__")) := by
    show (pureOf (fastBuiltinType "type.__ror__")).bind _ = _
    rw [show pureOf (fastBuiltinType "type.__ror__") = some (.type "wrapper_descriptor") from by decide +kernel]
    show fastLookup "wrapper_descriptor" "__get__" = _
    decide +kernel
  have h3 : takesIn K (.builtin "type.__ror__") = some false := by
    unfold takesIn
    have a1 : specialIn K (.builtin "type.__ror__") (Str.ofString "__set__") = some none := by
      show (pureOf (fastBuiltinType "type.__ror__")).bind _ = _
      rw [show pureOf (fastBuiltinType "type.__ror__") = some (.type "wrapper_descriptor") from by decide +kernel]
      show fastLookup "wrapper_descriptor" "__set__" = _
      decide +kernel
    have a2 : specialIn K (.builtin "type.__ror__") (Str.ofString "__delete__") = some none := by
      show (pureOf (fastBuiltinType "type.__ror__")).bind _ = _
      rw [show pureOf (fastBuiltinType "type.__ror__") = some (.type "wrapper_descriptor") from by decide +kernel]
      show fastLookup "wrapper_descriptor" "__delete__" = _
      decide +kernel
    rw [a1, a2]
    rfl
  unfold findCls
  rw [h1]
  simp only [Option.bind_some]
  rw [h2]
  simp only [Option.bind_some]
  rw [h3]
  simp only [Option.bind_some]
  rw [hr]
  rfl
theorem get_ror {tk : Tok} {Q : Option Value → Shared → Prop} (X : K.In s.heap) (rd : readsIn K D (.type "type") = true) (hin : instIn K (.ref D) (.type "type") = some true) (hr : findIn K (.ref D) "__ror__" = some none)
    (h : Q (some (.ref s.heap.objs.size)) { s with heap := s.heap.push (mw D) }) : wpAny (model prog w) A (getAttrBy? (.ref D) (.str "__ror__" tk)) Q E s := by
  have hr' := find_ror hr
  simp only [readsIn, Bool.and_eq_true, beq_iff_eq] at rd
  obtain ⟨⟨⟨⟨a, b⟩, c'⟩, d⟩, f⟩ := rd
  obtain ⟨hk, d⟩ := Option.isSome_iff_exists.mp d
  have ht : Looks (model prog w) s.heap (typeOf (.ref D)) (.type "type") := looks_typeIn X b
  have hb := looks_hook (M := model prog w) (mc := .type "type") X d
  unfold getAttrBy?
  refine wpAny_bind (wpAny_attempt ?_)
  unfold getAttrBy
  refine wpAny_holding (wpAny_bind (ht.here (wpAny_bind ((looks_findIn X c').here ?_))))
  dsimp only
  rw [show (onTheHeap (.type "type") && Value.builtin "type.__getattribute__" == Value.builtin "object.__getattribute__") = false from by rw [show (Value.builtin "type.__getattribute__" == Value.builtin "object.__getattribute__") = false from by decide +kernel, Bool.and_false], if_neg (by decide)]
  unfold getAttrByItsOwn
  refine wpAny_bind (hb.here (wpAny_bind (wpAny_attempt (wpAny_holding ?_))))
  unfold callGetattribute
  rw [show (false && onTheHeap (Value.builtin "type.__getattribute__")) = false from rfl, if_neg (by decide)]
  unfold boundAndCalled
  rw [KF.slot_tga.bind]
  refine wpAny_bind (wpAny_pure ?_)
  show wpAny _ _ (call (.builtin "type.__getattribute__") [.ref D, .str "__ror__" tk]) _ _ _
  refine wpAny_call ?_
  refine codeAny_call_builtin KF.slot_tga.plain KF.entry_tga ?_
  refine @check_slot (model prog w) _ _ s "type.__getattribute__" "type" "__getattribute__" (.ref D) [.str "__ror__" tk] [] _ (by decide +kernel) (by decide +kernel) (ht.andThen (looks_subIn X f)) (KF.args_tga (.ref D) (.str "__ror__" tk)) ?_
  refine tga_run X (looks_opaque X a) ht hr' ?_
  refine wpAny_bind (wpAny_holding (wpAny_call ?_))
  have hTi : Shared.TypeIs s (.builtin "type.__ror__") "wrapper_descriptor" := type_ror
  refine codeAny_call_builtin ESX.slot_wd.plain ESX.entry_wd (ESX.slot_wd.check _ _ _ _ _ _ _ _ hTi (ESX.args_wd _ _ _) ?_)
  obtain ⟨hh, g, dd, tt, os⟩ := s
  refine run_wd2 (looks_instIn X hin) ?_
  exact wpAny_pure (wpAny_bind (wpAny_of_eq (handedOut_of (show handedIn (.ref _) = true from rfl)) (wpAny_pure (wpAny_pure h))))
/-- the two bound ones differ -/
theorem ne_mw {x y C D : Addr} {oC oD : Obj} {Q : Value → Shared → Prop} (hu : A.units < cLine) (hx : s.heap.get? x = some (mw C)) (hy : s.heap.get? y = some (mw D)) (hC : s.heap.get? C = some oC) (hD : s.heap.get? D = some oD) (tC : oC.cls = .type "type") (hne : C ≠ D)
    (h : Q (.bool true) s) : wpAny (model prog w) A (richCompare .NotEq (.ref x) (.ref y)) Q E s := by
  refine wpAny_richCompare_same_room (op := .NotEq) ⟨_, hx, rfl⟩ ⟨_, hy, rfl⟩ slot_mwne (wpAny_call ?_) hu
  refine codeAny_call_builtin slot_mwne.plain entry_mwne (slot_mwne.check _ _ _ _ _ _ _ _ ⟨_, hx, rfl⟩ (args_mwne _ _) ?_)
  unfold Builtin.«method_wrapper.__ne__»
  refine wpAny_bind (m := slotArgs "__ne__" 1 _) (wpAny_pure ?_)
  refine wpAny_bind (wpAny_isInstance (T := "method-wrapper") (b := true) ⟨_, hy, rfl⟩ (by rw [isSubtype_type]; kernel_rfl) ?_)
  obtain ⟨hh, g, d, tt, os⟩ := s
  dsimp only at hx hy hC hD
  repeat lk
  have hcd : (C == D) = false := by simpa using hne
  obtain ⟨c, dd, dt, sl⟩ := oC
  simp only at tC
  subst tC
  refine wpAny_mono (Q := fun r s' => r = false ∧ s' = ⟨hh, g, d, tt, os⟩) (show wpAny (model prog w) A.in1 (isSame (.ref C) (.ref D)) _ _ _ from ?_) (fun r s' hr => ?_) fun _ _ z => z
  · unfold isSame
    dsimp only
    rw [hcd, if_neg Bool.false_ne_true]
    refine wpAny_bind (wpAny_load hC (wpAny_bind (wpAny_load hD ?_)))
    exact wpAny_pure ⟨rfl, rfl⟩
  · obtain ⟨rfl, rfl⟩ := hr
    exact wpAny_pure ⟨by simp, h⟩
theorem inst_keeps {x C : Addr} {ox : Obj} {od : Option Obj} {h h' : Heap} (I : InstAt h x ox C od) (k : ∀ b o, h.get? b = some o → h'.get? b = some o) : InstAt h' x ox C od := by
  refine ⟨k _ _ I.at_, I.cls, I.no, ?_⟩
  have q := I.dict
  cases e : ox.dict with
  | none => rw [e] at q; cases od with
    | none => trivial
    | some o => exact q.elim
  | some dx => rw [e] at q; cases od with
    | none => exact q.elim
    | some o => exact k _ _ q
/-- C | D where D stands below C: the reflected one is asked for, is not there, and the left one is called -/
theorem or_sub {x y C D f f' : Addr} {ox oy : Obj} {od ody : Option Obj} {Q : Value → Shared → Prop} (hu : A.units < cLine) (X : K.In s.heap) (I : InstAt s.heap x ox C od) (J : InstAt s.heap y oy D ody) (hc : selfFirst K C = true) (hd : selfFirst K D = true)
    (hs : findIn K (.ref C) "__or__" = some (some (.ref f))) (hf : isFn K (.ref f) = true) (hr : findIn K (.ref C) "__ror__" = some none)
    (hs' : findIn K (.ref D) "__or__" = some (some (.ref f'))) (hr' : findIn K (.ref D) "__ror__" = some none) (hne : (Value.ref C == Value.ref D) = false) (hsub : subIn K (.ref D) (.ref C) = some true)
    (rC : readsIn K C (.type "type") = true) (iC : instIn K (.ref C) (.type "type") = some true) (rD : readsIn K D (.type "type") = true) (iD : instIn K (.ref D) (.type "type") = some true)
    (h : ∀ (h' : Heap) (t' : Nat), (∀ b o, s.heap.get? b = some o → h'.get? b = some o) → wpAny (model prog w) A (call (.ref f) [.ref x, .ref y]) (PySem.W.CmpBack Q) E { s with heap := h', toks := t' }) : wpAny (model prog w) A (binaryOp .BitOr (.ref x) (.ref y)) Q E s := by
  obtain ⟨cd, rest, hcd, hm⟩ := ksp_first hc
  obtain ⟨cd', rest', hcd', hm'⟩ := ksp_first hd
  have hCD : C ≠ D := fun e => by rw [e] at hne; simp at hne
  obtain ⟨hh, g, d, tt, os⟩ := s
  have L1 : Looks (model prog w) hh (typeOf (.ref x)) (.ref C) := I.type
  have L2 : Looks (model prog w) hh (typeOf (.ref y)) (.ref D) := J.type
  have L3 : Looks (model prog w) hh (fillsNumberSlot (.ref C) "or") true := fills_K X hcd hm hs
  have L4 : Looks (model prog w) hh (fillsNumberSlot (.ref D) "or") true := fills_K X hcd' hm' hs'
  have L5 : Looks (model prog w) hh (isSubtype (.ref D) (.ref C)) true := looks_subIn X hsub
  have L6 : Looks (model prog w) hh (numberSlotInPython (.ref C) "or") true := ksp_inPy X hs hr (.inl rfl)
  have L7 : Looks (model prog w) hh (numberSlotInPython (.ref D) "or") true := ksp_inPy X hs' hr' (.inl rfl)
  have X1 : K.In (hh.push (mw D)) := X.keeps fun b o e => Heap.get?_push_of_some _ e
  have X2 : K.In ((hh.push (mw D)).push (mw C)) := X1.keeps fun b o e => Heap.get?_push_of_some _ e
  have kp : ∀ b o, hh.get? b = some o → ((hh.push (mw D)).push (mw C)).get? b = some o := fun b o e => Heap.get?_push_of_some _ (Heap.get?_push_of_some _ e)
  have ref : wpAny (model prog w) A (reflectedDiffers (.ref C) (.ref D) "or") (fun r s' => r = true ∧ s' = ⟨(hh.push (mw D)).push (mw C), g, d, tt + 1, os⟩) E ⟨hh, g, d, tt, os⟩ := by
    unfold reflectedDiffers
    refine wpAny_bind (L6.here ?_)
    simp only [Bool.not_true, Bool.false_eq_true, if_false]
    refine wpAny_bind (L7.here ?_)
    simp only [Bool.not_true, Bool.false_eq_true, if_false]
    refine wpAny_bind (wpAny_mkStr ?_ (by decide))
    refine wpAny_bind (get_ror (s := ⟨hh, g, d, tt + 1, os⟩) X rD iD hr' ?_)
    refine wpAny_holding (wpAny_bind (get_ror (s := ⟨hh.push (mw D), g, d, tt + 1, os⟩) X1 rC iC hr ?_))
    have eD : (hh.push (mw D)).get? hh.objs.size = some (mw D) := Heap.get?_push_size _ rfl
    have eD2 : ((hh.push (mw D)).push (mw C)).get? hh.objs.size = some (mw D) := Heap.get?_push_of_some _ eD
    have eC2 : ((hh.push (mw D)).push (mw C)).get? (hh.push (mw D)).objs.size = some (mw C) := Heap.get?_push_size _ rfl
    have hxy : ((hh.push (mw D)).objs.size == hh.objs.size) = false := by rw [Heap.size_push]; simp
    refine wpAny_holding (wpAny_bind ?_)
    unfold isSame
    dsimp only
    rw [hxy, if_neg Bool.false_ne_true]
    refine wpAny_bind (wpAny_load eC2 (wpAny_bind (wpAny_load eD2 ?_)))
    refine wpAny_pure ?_
    rw [if_neg Bool.false_ne_true]
    obtain ⟨oC, hoC⟩ : ∃ o, K.lookup C = some o := by
      unfold clsIn at hcd
      split at hcd
      · exact ⟨_, by assumption⟩
      · cases hcd
    obtain ⟨oD, hoD⟩ : ∃ o, K.lookup D = some o := by
      unfold clsIn at hcd'
      split at hcd'
      · exact ⟨_, by assumption⟩
      · cases hcd'
    have tC : oC.cls = .type "type" := by
      simp only [readsIn, Bool.and_eq_true, beq_iff_eq] at rC
      have := rC.1.1.1.2
      have t2 : Option.map (fun x => x.cls) (List.lookup C K) = some (Value.type "type") := this
      rw [show List.lookup C K = some oC from hoC] at t2
      exact Option.some.inj t2
    refine wpAny_bind (ne_mw (s := ⟨(hh.push (mw D)).push (mw C), g, d, tt + 1, os⟩) hu eC2 eD2 (X2 _ _ hoC) (X2 _ _ hoD) tC hCD ?_)
    exact wpAny_truthy_bool ⟨rfl, rfl⟩
  have L2' : Looks (model prog w) ((hh.push (mw D)).push (mw C)) (typeOf (.ref y)) (.ref D) := L2.keeps kp
  have L8 : Looks (model prog w) ((hh.push (mw D)).push (mw C)) (typeLookup (.ref D) "__ror__") none := looks_findIn X2 hr'
  have one := ksp_try (s := ⟨(hh.push (mw D)).push (mw C), g, d, tt + 1, os⟩) X2 (inst_keeps I kp) hs hf (h ((hh.push (mw D)).push (mw C)) (tt + 1) kp)
  have no : wpAny (model prog w) A (tryMethod (.ref y) (dunderR "or") (.ref x)) (fun r s' => r = none ∧ s' = ⟨(hh.push (mw D)).push (mw C), g, d, tt + 1, os⟩) E ⟨(hh.push (mw D)).push (mw C), g, d, tt + 1, os⟩ := by
    unfold tryMethod
    refine wpAny_bind ?_
    show wpAny _ _ (callSpecial? (.ref y) "__ror__" [.ref x]) _ _ _
    refine wpAny_bind (wpAny_bind (L2'.at (L8.at ?_)))
    exact wpAny_pure (wpAny_pure ⟨rfl, rfl⟩)
  unfold binaryOp
  refine wpAny_holding (wpAny_bind ?_)
  show wpAny _ _ (binaryOp1 "or" (.ref x) (.ref y)) _ _ _
  unfold binaryOp1
  refine wpAny_bind (L1.at (wpAny_bind (L2.at (wpAny_bind (L3.at ?_)))))
  simp only [hne, Bool.false_eq_true, if_false]
  refine wpAny_bind (L4.at ?_)
  simp only [Bool.and_self, if_true]
  refine wpAny_bind (L5.at ?_)
  simp only [if_true]
  refine wpAny_bind (wpAny_mono ref (fun r s' hrr => ?_) fun _ _ z => z)
  obtain ⟨rfl, rfl⟩ := hrr
  simp only [if_true]
  refine wpAny_bind (wpAny_rule (wpAny_bind (wpAny_mono no (fun r s' hrr => ?_) fun _ _ z => z)))
  obtain ⟨rfl, rfl⟩ := hrr
  simp only [Bool.not_true, Bool.and_false, Bool.false_eq_true, if_false]
  ksp_lk
  refine wpAny_mono one (fun r s' hr' => ?_) fun _ _ e => e
  obtain ⟨v, rfl, hq⟩ := hr'
  ksp_lk
  exact hq
end
end HB
set_option Elab.async false
set_option linter.all false
set_option maxRecDepth 100000
set_option maxHeartbeats 4000000
/-! the own | by plain data -/
namespace HB
open PySem L2
/-- what a class is known by, for | -/
structure OrC (K : PySem.W.Frag) (C f : Addr) : Prop where
  first : PySem.W.selfFirst K C = true
  or_ : OwnM K C "__or__" f
  ror : PySem.W.findIn K (.ref C) "__ror__" = some none
  rd : PySem.W.readsIn K C (.type "type") = true
  ins : PySem.W.instIn K (.ref C) (.type "type") = some true
/-- and two of them: alike, apart, the right one below the left -/
def OrP (K : PySem.W.Frag) (C D : Addr) : Prop := C = D ∨ (C ≠ D ∧ ∃ b, PySem.W.subIn K (.ref D) (.ref C) = some b)
section
variable {X : Cx} {k : Nat} {f : Addr} {T : PT1}
def rhoOr (G : Addr → Addr → Prop) (T : PT1) : Rho := fun dx dy m P => ∃ C D fs gs, asO m dx C fs ∧ asO m dy D gs ∧ G C D ∧ T [dx, dy] m P
theorem lo_or {G : Addr → Addr → Prop} (hG : ∀ C D, G C D → ∃ f', OrC X.K C f ∧ OrC X.K D f' ∧ OrP X.K C D) (F : FnQ false X.prog X.w X.K X.mg X.base k f T) (hr : Room k X.A) : LOp X (binaryOp .BitOr) (rhoOr G T) := by
  refine ⟨fun x y H Q => ∃ a a' C D dx dy fs gs, x = .ref a ∧ y = .ref a' ∧ H a = some (.ins C dx fs) ∧ H a' = some (.ins D dy gs) ∧ G C D ∧ SpG X.K T [x, y] H Q, fun pins s σ H x y v u Q I rx ry h => ?_, fun x y dx dy H m P Q o ix iy h hq => ?_⟩
  · obtain ⟨a, a', C, D, dx, dy, fs, gs, rfl, rfl, ea, ea', hg, h⟩ := h
    obtain rfl : v = Value.ref a := rx
    obtain rfl : u = Value.ref a' := ry
    obtain ⟨od, J⟩ := inst_of I ea
    obtain ⟨od', J'⟩ := inst_of I ea'
    obtain ⟨mf, hF⟩ := I.fr
    obtain ⟨f', g1, g2, g3⟩ := hG C D hg
    rcases g3 with rfl | ⟨hne, b, hb⟩
    · refine PySem.W.binop_K hF I.ok.mod.kin J J'.type g1.first g1.or_.at_ g1.or_.fn ?_
      exact wpAny_mono (run_fnQ_at F hr rfl (fun q => nomatch q) I (.cons (relRef _) (.cons (relRef _) .nil)) h) (fun u s' q => cmp_back q) fun _ _ q => q
    · have hne' : (Value.ref C == Value.ref D) = false := by simpa using hne
      cases b with
      | false =>
        refine or_two (op := .BitOr) I.kIn J J' g1.first g2.first g1.or_.at_ g1.or_.fn g1.ror g2.or_.at_ g2.ror hne' hb ?_
        exact wpAny_mono (run_fnQ_at F hr rfl (fun q => nomatch q) I (.cons (relRef _) (.cons (relRef _) .nil)) h) (fun u s' q => cmp_back q) fun _ _ q => q
      | true =>
        refine or_sub hr.units0 I.kIn J J' g1.first g2.first g1.or_.at_ g1.or_.fn g1.ror g2.or_.at_ g2.ror hne' hb g1.rd g1.ins g2.rd g2.ins fun h' t' kp => ?_
        have I' : Inv X pins σ H { s with heap := h', toks := t' } := I.kept kp
        exact wpAny_mono (run_fnQ_at F hr rfl (fun q => nomatch q) I' (.cons (relRef _) (.cons (relRef _) .nil)) h) (fun u s' q => cmp_back q) fun _ _ q => q
  · obtain ⟨C, D, fs, gs, ha, ha', hg, h⟩ := h
    obtain ⟨a, dx', fs', rfl, e1, r1⟩ := asO_ok o ha ix
    obtain ⟨a', dy', gs', rfl, e2, r2⟩ := asO_ok o ha' iy
    exact ⟨a, a', C, D, dx', dy', fs', gs', rfl, rfl, e1, e2, hg, [dx, dy], m, P, iss_cons.mpr ⟨_, _, rfl, ix, Iss.one iy⟩, o, h, hq⟩
end
end HB
set_option Elab.async false
set_option linter.all false
set_option maxRecDepth 100000
set_option maxHeartbeats 4000000
/-! a def whose body is super().__init__(e) -/
namespace HB
open PySem L2 NdefX
/-- its data at the entry: the parameters, the class cell's slot, no more -/
def startN (N : List Str) (ds : List D) : GEnv := ds.map some ++ (none :: List.replicate (N.length - ds.length - 1) none)
def superT (D0 : Addr) (n : Nat) (N : List Str) (sa : SA) (T0 : PT1) : PT1 := fun ds m P => ds.length = n ∧ ∃ a fs, ds[0]? = some (.ref a) ∧ m a = some (.ins D0 fs) ∧ sa (startN N ds) m fun es m1 => T0 (.ref a :: es) m1 fun d m2 => d = .non ∧ ∃ m3, Le m3 m2 ∧ P .non m3
section
variable {P : Program} {w : World} {K : PySem.W.Frag} {mg : Str → Option Value} {base : Heap} {k : Nat} {f f0 cc D0 cda : Addr} {name qual : Str} {params : Arguments} {scope : Scope} {dV kV doc pm ct oc : Value} {an od : Option Addr} {osl : Array (Option Value)}
  {N ps : List Str} {T0 : PT1} {sa : SA} {tup : Expr} {p0 p1 apos cpos spos : Pos}
theorem slots_startN {H : Hp} {m : Mem} {ds : List D} {vs : List V} (i : Iss K H m ds vs) : Slots K H m (startF N vs [none]) (startN N ds) := by
  have hl := i.length
  refine ⟨by unfold startF startN; simp [hl], fun j d e => ?_⟩
  unfold startN at e
  unfold startF
  by_cases hj : j < ds.length
  · rw [List.getElem?_append_left (by simpa using hj), List.getElem?_map] at e
    rw [List.getElem?_append_left (by rw [List.length_map]; omega), List.getElem?_map]
    cases q : ds[j]? with
    | none => rw [q] at e; cases e
    | some x =>
      rw [q] at e
      have ex : x = d := by simpa using e
      subst ex
      obtain ⟨v, h1, h2⟩ := i.get q
      exact ⟨v, by rw [h1]; rfl, h2⟩
  · rw [List.getElem?_append_right (by simpa using hj), List.length_map] at e
    exfalso
    cases q : j - ds.length with
    | zero => rw [q] at e; cases e
    | succ n =>
      rw [q, List.getElem?_cons_succ, List.getElem?_replicate] at e
      split at e <;> cases e
/-- what is asked of the text -/
structure SuperK (K : PySem.W.Frag) (prog : Program) (D0 f f0 cc cda : Addr) (qual : Str) : Prop where
  code : PySem.W.codeIn K (.ref cda) qual = true
  file : ∃ ccl cdd ccs, ∃ vs : Array Value, ∃ fl tf, K.lookup cda = some ⟨ccl, cdd, .fields vs, ccs⟩ ∧ vs[2]? = some (.str fl tf) ∧ ((prog.main.file : Str) == fl) = true
  cell : ∃ cl cld csl, K.lookup cc = some ⟨cl, cld, .cell (some (.ref D0)), csl⟩
  cls : ∃ cd, PySem.W.clsIn K D0 = some cd
  sub : PySem.W.mroIn K D0 (.ref D0) = some true
  top : (prog.main.scope.names.lookup ("super" : Str)).isSome = false
  op : PySem.W.nsIn K cStatics "thirdparty.any" = some none
  sup : PySem.W.ks_superIn K D0 D0 "__init__" = some (some (.ref f0))
  ty : PySem.W.typeIn K (.ref f0) = some (.type "function")
  fn : PySem.W.fnIn K f0 = true
theorem inst_of' {X : Cx} {pins : List (Addr × Obj)} {σ : L2.St} {H : Hp} {s : Shared} {C a dx : Addr} {fs : List (Str × V)} (I : Inv X pins σ H s) (e : H a = some (.ins C dx fs)) : ∃ od, PySem.W.InstAt s.heap a (PySem.W.instObj C dx) C (some od) := by
  obtain ⟨mA, O, _⟩ := ins_get I.hok e
  obtain ⟨od, J, _⟩ := O.look
  exact ⟨od, J⟩
theorem fnQ_super {ar : Arg} (Z : SuperK K P D0 f f0 cc cda qual)
    (lk : K.lookup f = some ⟨oc, od, .func (PySem.W.fnX name qual params [.Expr (.Call (.Attribute (.Call (.Name "super" p0) [] [] p1) "__init__" apos) [tup] [] cpos) spos] scope [("__class__", cc)] dV kV doc pm an (.ref cda) ct), osl⟩)
    (S : NScope N ps ["__class__"] scope) (har : (params.posonlyargs ++ params.args).head? = some ar) (hp0 : ps[0]? = some ar.arg) (hmg : mg "super" = none)
    (hks : scope.names.lookup ("super" : Str) = some .globalImplicit)
    (hb : ∀ (st : Shared) (us : List Value), us.length = ps.length → K.In st.heap → BindsTo st (PySem.W.fnX name qual params [.Expr (.Call (.Attribute (.Call (.Name "super" p0) [] [] p1) "__init__" apos) [tup] [] cpos) spos] scope [("__class__", cc)] dV kV doc pm an (.ref cda) ct) ⟨us, []⟩ (ps.zip us))
    (F0 : FnQ false P w K mg base k f0 T0)
    (ha : ∀ (A : Around) (outer : List PySem.Env) (st : Shared) (H : Hp), LA (ncx CX0 P w K mg base N ⟨name, qual, params, [.Expr (.Call (.Attribute (.Call (.Name "super" p0) [] [] p1) "__init__" apos) [tup] [] cpos) spos], scope, [("__class__", cc)], cda⟩ f A outer st H E0) [tup] sa)
    (hst : ∀ env : PySem.Env, starEach [tup] env = (false, eval tup env) :: starEach [] env) (hsw : ∀ env : PySem.Env, swapsWith (.Call (.Attribute (.Call (.Name "super" p0) [] [] p1) "__init__" apos) [tup] [] cpos) none spos.line env = pure false)
    (hev : ∀ env : PySem.Env, ∃ pl : Sem Bool, eval (.Call (.Attribute (.Call (.Name "super" p0) [] [] p1) "__init__" apos) [tup] [] cpos) env = (do
      let ov ← attributeBase (.Call (.Name "super" p0) [] [] p1) "__init__" env (eval (.Call (.Name "super" p0) [] [] p1) env)
      standAt apos.atName
      let (f, first) ← holding [ov] (getMethod ov "__init__" pl)
      callWith cpos f first (backTo cpos (starEach [tup] env)) [])) :
    FnQ false P w K mg base (k + 1) f (superT D0 ps.length N sa T0) := by
  intro A outer s H us vs Q hr _ e0 rv hG
  obtain ⟨ds, m, Pd, i, o, ⟨hlen, a, fs, hd0, hma, hT⟩, hq⟩ := hG
  have hl : vs.length = ps.length := by rw [i.length]; exact hlen
  have KX : K.In s.heap := e0.mod.kin.keeps fun b o e => (e0.bs b o e).1
  have lim : s.heap.NoLimit := e0.mod.nolimit.keeps fun b o e => (e0.bs b o e).1
  obtain ⟨ccl, cdd, ccs, fvs, fl, tf, hcode, hvs, hfile⟩ := Z.file
  obtain ⟨cl, cld, csl, hcell⟩ := Z.cell
  obtain ⟨cd, hcd⟩ := Z.cls
  have hcH : H cc = none := (e0.bs _ _ (e0.mod.kin _ _ hcell)).2
  refine codeAny_call_function hr.depth (KX _ _ lk) rfl S.co S.gen rfl (PySem.W.codeRec_of KX Z.code) (hb s us (by rw [← rv.length]; exact hl) KX _ _ _ _ ?_)
  refine wpAny_newFunctionEnv S.nocell (fun ⟨n, _⟩ hy => S.par n (List.of_mem_zip hy).1) (fun h₁ hns hsb => ⟨lim.fresh _ hsb, ?_⟩) S.kind
  refine ks_codeAny_funcAt ?_
  have kp : ∀ b o, s.heap.get? b = some o → h₁.get? b = some o := fun b o e => hsb.extBut b o (Nat.ne_of_lt (Heap.lt_size e)) (Heap.get?_push_of_some _ e)
  have C : CellsAt [("__class__", cc)] ["__class__"] [none] s.heap H := by
    refine ⟨rfl, fun y c e => ?_, fun x y c e1 e2 => ?_, fun j y e => ?_⟩
    · have : c = cc := by
        rw [List.lookup_cons] at e
        cases q : (y == ("__class__" : Str)) with
        | true => rw [q] at e; exact (Option.some.inj e).symm
        | false => rw [q] at e; cases e
      subst this
      exact ⟨hcH, _, _, KX _ _ hcell, rfl⟩
    · rw [List.lookup_cons] at e1 e2
      cases q1 : (x == ("__class__" : Str)) with
      | false => rw [q1] at e1; cases e1
      | true =>
        cases q2 : (y == ("__class__" : Str)) with
        | false => rw [q2] at e2; cases e2
        | true => rw [beq_iff_eq.mp q1, beq_iff_eq.mp q2]
    · cases j with
      | zero =>
        have e : some ("__class__" : Str) = some y := e
        cases e
        exact ⟨cc, rfl, fun v z => nomatch z⟩
      | succ n => cases e
  have I := inv_startN (N := N) (F := ⟨name, qual, params, [.Expr (.Call (.Attribute (.Call (.Name "super" p0) [] [] p1) "__init__" apos) [tup] [] cpos) spos], scope, [("__class__", cc)], cda⟩) (f := f) (E := E0) (CX := CX0) (tk := s.toks + (ps.zip us).length) S hr.hd e0 hl rv C hns kp
  obtain ⟨ta, pa, la⟩ := ha A outer s H
  have hk : scope.kind = .function := S.kind
  have hkc : scope.names.lookup ("__class__" : Str) = some .free := S.frk _ (by simp)
  obtain ⟨w0, hw0, iw0⟩ := i.get hd0
  obtain rfl := is_ref.mp iw0
  obtain ⟨u0, hu0, ru0⟩ := rv.get hw0
  obtain rfl : u0 = Value.ref a := ru0
  obtain ⟨dx, gs, ea, _⟩ := o a _ hma
  obtain ⟨odd, J⟩ := inst_of' I ea
  have hself : (ps.zip us).reverse.lookup ar.arg = some (Value.ref a) := by
    have ndP : ps.Nodup := by
      have q := S.nd.sublist (List.take_sublist (ps.length + [Str.ofString "__class__"].length) N)
      rw [S.pre] at q
      exact (List.nodup_append.mp q).1
    exact zip_look ndP hp0 hu0
  have hkself : scope.names.lookup ar.arg = some .local := S.par _ (List.mem_of_getElem? hp0)
  obtain ⟨oD, hD1, hD2⟩ : ∃ oD, h₁.get? D0 = some oD ∧ oD.data = .cls cd := by
    unfold PySem.W.clsIn at hcd
    split at hcd
    · rename_i ho
      cases hcd
      exact ⟨_, kp _ _ (KX _ _ ho), rfl⟩
    · cases hcd
  have X1 : K.In h₁ := KX.keeps kp
  refine ks_wpAt_execs_cons (ks_wpAt_Expr_any ?_ (by unfold interactive; rw [show (newEnv _ _ _ _ _ _ _ _ _).scope = scope from rfl]; rw [hk]; rfl) (hsw _))
  obtain ⟨pl, hev⟩ := hev (callEnv (PySem.W.fnX name qual params [.Expr (.Call (.Attribute (.Call (.Name "super" p0) [] [] p1) "__init__" apos) [tup] [] cpos) spos] scope [("__class__", cc)] dV kV doc pm an (.ref cda) ct) s.heap.objs.size f)
  refine ks_wpAt_MethodCall (pl := pl) ?_ hev
  refine ks_wpAt_super_base hks hkc (by decide) rfl (X1 _ _ lk) rfl har rfl (X1 _ _ hcode) rfl hvs hfile Z.top ?_
  obtain ⟨mb, hblt1, hblt2⟩ := I.mod.blt
  refine PySem.W.ks_loadName_global hk hks (Calls.loadGlobal_builtin (I.mod.glob.keeps I.bk) hmg (hblt1.keeps I.bk) ((hblt2 _ (by decide)).trans (show bootBuiltins ("super" : Str) = some (.type "super") by decide +kernel)) ⟨rfl, ?_⟩)
  refine wpAny_loadName_free hk hkc rfl ⟨_, X1 _ _ hcell, rfl⟩ ?_
  refine wpAny_loadName_local hk hkself hns hself ?_
  refine ks_wpAny_isType_cls hD1 hD2 ⟨rfl, ?_⟩
  refine ks_wpAny_call_super hD1 hD2 J.at_ J.cls (fun c e => ?_) (PySem.W.looks_mroIn X1 Z.sub) (fun h2 e2 k2 => ?_)
  · have := J.no
    unfold PySem.W.notCls at this
    rw [e] at this
    exact Bool.noConfusion this
  have I2 := ClX.pin_new (t' := s.toks + (ps.zip us).length) I k2 (Nat.le_refl _) e2 (fun v z => nomatch z)
  have X2 : K.In h2 := X1.keeps k2
  have hxC : a ≠ D0 := PySem.W.ks_ne X1 J hcd
  obtain ⟨of, hof, hofc⟩ : ∃ of, h2.get? f0 = some of ∧ of.cls = .type "function" := by
    have ht' : (K.lookup f0).map (·.cls) = some (.type "function") := Z.ty
    cases z : K.lookup f0 with
    | none => rw [z] at ht'; cases ht'
    | some of => rw [z] at ht'; exact ⟨of, X2 _ _ z, Option.some.inj ht'⟩
  have hsup : PySem.W.alongIn K "__init__" ((cd.mro.dropWhile (· != .ref D0)).drop 1) = some (some (.ref f0)) := by
    have := Z.sup
    unfold PySem.W.ks_superIn at this
    rw [hcd] at this
    exact this
  refine ks_wpAny_getMethod_super (l₀ := cd.mro) e2 (PySem.W.looks_opaque X2 Z.op) ?_ rfl X2 hsup hof hofc hxC (by decide) ?_
  · exact fun A Q E s k q => wpAny_bind ((PySem.W.looks_clsIn X2 hcd) A _ E s k (wpAny_pure q))
  have I3 := ClX.pin_new (o := PySem.W.methodObj (.ref f0) (.ref a)) (t' := s.toks + (ps.zip us).length + 1) I2 (fun b o e => Heap.get?_push_of_some _ e) (Nat.le_refl _) (Heap.get?_push_size _ rfl) (fun v z => nomatch z)
  have hsl := slots_startN (N := N) i
  refine ClX.callwith_cm I3 (ClX.base_none I2 (Nat.le_refl _)) Z.fn (thn (pa.run cpos _ _ _ H (fun vs H' => SpG K T0 (.ref a :: vs) H' fun v H'' => v = .non ∧ Q .non H'') I3 ?_) fun us2 s4 ⟨vs2, H2, I4, rv2, q2⟩ => ⟨⟨ClX.pin_at I4, I4.kIn⟩, ?_⟩) (hst _) rfl
  · refine la _ H (startN N ds) m _ _ hsl o hT fun es m1 vs' H1 h1 s1 o1 i1 => ?_
    refine ⟨.ref a :: es, m1, _, iss_cons.mpr ⟨_, vs', rfl, is_ref.mpr rfl, i1⟩, o1, h1, fun d m2 v H2 h2 s2 o2 i2 => ?_⟩
    obtain ⟨rfl, m3, le, p⟩ := h2
    exact ⟨is_non.mp i2, hq .non m3 .non H2 p ((s1.trans s2).trans le.step) (o2.le le) (is_non.mpr rfl)⟩
  · refine wpAny_mono (ClX.run_cm (Q := fun v H'' => v = .non ∧ Q .non H'') F0.raw (hr.deeper _) pass0 I4 rv2 q2) (fun u s5 h5 => ?_) fun _ _ z => z
    obtain ⟨v, H5, I5, r5, rfl, q5⟩ := h5
    refine wpAt_of_wpAny (wpAny_execs_nil ?_)
    exact ⟨.non, H5, I5.os, I5.bare, I5.base, I5.hok, rfl, q5⟩
end
end HB
set_option Elab.async false
set_option linter.all false
set_option maxRecDepth 100000
set_option maxHeartbeats 4000000
/-! making instances with keywords, with starred arguments -/
namespace HB
open PySem L2
def tMkG (K : PySem.W.Frag) (C : Addr) (T : PT1) (vs : List V) (H : Hp) (Q : VK) : Prop := ∀ x dx, H x = none → H dx = none → dx ≠ x → SpG K T (.ref x :: vs) (upd (upd H dx (.own x)) x (.ins C dx [])) (fun v H2 => v = .non ∧ Q (.ref x) H2)
/-- what a call of a class is asked -/
def mkP (C : Addr) (T : PT1) (ds : List D) (m : Mem) (P : PD) : Prop := ∀ a, m a = none → T (.ref a :: ds) (mset m a (.ins C [])) fun d m2 => d = .non ∧ ∃ d' m3, Gh (.ref a) m2 d' m3 ∧ P d' m3
theorem mkG_of {K : PySem.W.Frag} {C : Addr} {T : PT1} {ds : List D} {vs : List V} {H : Hp} {m : Mem} {P : PD} {Q : VK} (o1 : MOk K H m) (i1 : Iss K H m ds vs) (h1 : mkP C T ds m P) (hq : KE K H m P Q) : tMkG K C T vs H Q := by
  intro x dx hx hdx hne
  have st1 : Step H m (upd H dx (.own x)) m := Step.new hdx
  have o2 := o1.new (o := .own x) hdx
  have hx2 : upd H dx (.own x) x = none := by rw [upd_ne (Ne.symm hne)]; exact hx
  have st2 : Step (upd H dx (.own x)) m (upd (upd H dx (.own x)) x (.ins C dx [])) (mset m x (.ins C [])) := Step.newM hx2
  have o3 : MOk K (upd (upd H dx (.own x)) x (.ins C dx [])) (mset m x (.ins C [])) := o2.newM hx2 ⟨dx, [], upd_same, .nil⟩
  refine ⟨.ref x :: ds, _, _, iss_cons.mpr ⟨_, vs, rfl, is_ref.mpr rfl, Iss.step (st1.trans st2) _ i1⟩, o3, h1 x (o1.free hx), fun d m2 v H2 h2 s2 o4 i2 => ?_⟩
  obtain ⟨rfl, d', m3, gh, h3⟩ := h2
  have ir : Is K H2 m2 (.ref x) (.ref x) := is_ref.mpr rfl
  obtain ⟨g1, g2, _⟩ := gh K H2 (.ref x) o4 ir
  exact ⟨is_non.mp i2, hq d' m3 _ H2 h3 (((st1.trans st2).trans s2).trans (gh.step o4 ir)) g1 g2⟩
section
variable {X : Cx} {k n : Nat} {f C : Addr} {T : PT1} {x : Str} {e : Expr} {es : List Expr} {p pos sp : Pos} {sa sk : SA} {so : SE} {ks : List Str} {kws : List Keyword}
theorem run_mkQ {pins : List (Addr × Obj)} {σ : L2.St} {H : Hp} {s : Shared} {Q : VK} {us : List Value} {vs : List V} (M : Mk X.K C f) (F : FnQ false X.prog X.w X.K X.mg X.base k f T) (hr : Room (k + 1) X.A) (I : Inv X pins σ H s) (r : Vals vs us) (h : tMkG X.K C T vs H Q) :
    wpAny (model X.prog X.w) X.A (call (.ref C) us) (EP X pins σ Q) X.xe s :=
  StX.run_makeR (E := E0) (CX := CX0) M F.raw hr pass0 I r h
theorem run_mkK {pins : List (Addr × Obj)} {σ : L2.St} {H : Hp} {s : Shared} {Q : VK} {us ws : List Value} {vs zs : List V} (M : Mk X.K C f) (F : FnK X.prog X.w X.K X.mg X.base k f n ks T) (hr : Room (k + 1) X.A) (I : Inv X pins σ H s) (r : Vals vs us) (rz : Vals zs ws)
    (l1 : us.length + 1 = n) (l2 : ws.length = ks.length) (h : tMkG X.K C T (vs ++ zs) H Q) : wpAny (model X.prog X.w) X.A (call (.ref C) us (ks.zip ws)) (EP X pins σ Q) X.xe s := by
  have hq := h (s.heap.objs.size + 1) s.heap.objs.size (I.hok.fresh (Nat.le_succ _)) (I.hok.fresh (Nat.le_refl _)) (Nat.ne_of_lt (Nat.lt_succ_self _))
  have I2 := Inv.made (C := C) I
  have r1 : Vals (V.ref (s.heap.objs.size + 1) :: vs) (Value.ref (s.heap.objs.size + 1) :: us) := .cons rfl r
  refine wpAny_call (make_map (f := f) I.kIn M.makes M.init (beq_iff_eq.mp M.fn) (codeAny_mono (F _ X.stack _ _ (Value.ref (s.heap.objs.size + 1) :: us) ws _ zs _ (hr.make C us (ks.zip ws))
    (I2.env0.make C us (ks.zip ws)) r1 rz l1 l2 hq) fun r s' hq' => ?_))
  cases r with
  | error e => exact False.elim hq'
  | ok fl =>
    cases fl with
    | ret u =>
      obtain ⟨v, H', I3, rv, ev, q3⟩ := I2.after hq'
      subst ev
      exact ⟨rv, ⟨V.ref (s.heap.objs.size + 1), H', I3, rfl, q3⟩⟩
    | next => exact False.elim hq'
    | brk => exact False.elim hq'
    | cont => exact False.elim hq'
/-- C(e, .., k = v, ..), C any name that holds the class -/
def sMakeK (C : Addr) (n nk : Nat) (T : PT1) (so : SE) (sa sk : SA) : SE := fun Γ m P => so Γ m fun d m0 => d = .ref C ∧ sa Γ m0 fun ds m1 => sk Γ m1 fun es m2 => ds.length + 1 = n ∧ es.length = nk ∧ mkP C T (ds ++ es) m2 P
theorem le_makeK (hc : LE X (.Name x p) so) (M : Mk X.K C f) (F : FnK X.prog X.w X.K X.mg X.base k f n ks T) (hr : Room (k + 1) X.A) (ha : LA X (e :: es) sa) (hk : LK X kws sk)
    (hall : (backToKw pos (keywordEach kws X.env)).all (·.1.isSome) = true := by rfl) (hks : (backToKw pos (keywordEach kws X.env)).filterMap (·.1) = ks := by rfl)
    (he : starEach (e :: es) X.env = (false, eval e X.env) :: starEach es X.env := by rfl) (hpl : ((backTo pos (starEach (e :: es) X.env)).any (·.1) || (backToKw pos (keywordEach kws X.env)).any (·.1.isNone)) = false := by rfl) :
    LE X (.Call (.Name x p) (e :: es) kws pos) (sMakeK C n ks.length T so sa sk) := by
  obtain ⟨tc, pc, lc⟩ := hc
  obtain ⟨t, pa, l⟩ := ha
  obtain ⟨tk, pk, lk⟩ := hk
  refine ⟨fun σ H Q => tc σ H fun v H0 => v = .ref C ∧ t σ H0 fun vs H1 => tk σ H1 fun zs H2 => vs.length + 1 = n ∧ zs.length = ks.length ∧ tMkG X.K C T (vs ++ zs) H2 Q, ⟨fun pins s σ H Q I h => ?_⟩, fun σ H Γ m P Q hs hm h hq => ?_⟩
  · refine wpAny_Call_Name_kw (thn (pc.run pins s σ H _ I h) fun u s0 ⟨v, H0, I0, r0, ev, q0⟩ => ?_)
    subst ev
    obtain rfl : u = Value.ref C := r0
    refine PySem.W.callWith_KW (h₀ := X.base) I.ok.mod.kin M.kp hall (thn (pa.run pos pins s0 σ H0 _ I0 q0) fun us s1 ⟨vs, H1, I1, r, q⟩ => ?_) hpl he
    refine thn (pk.run pos pins s1 σ H1 _ I1 q) fun ws s2 ⟨zs, H2, I2, rz, l1, l2, q2⟩ => ⟨I2.kIn, ?_⟩
    rw [hks]
    exact run_mkK (us := us) M F hr I2 r rz (by rw [← r.length]; exact l1) (by rw [← rz.length]; exact l2) q2
  · refine lc σ H Γ m _ _ hs hm h fun d m0 v H0 h0 s0 o0 i0 => ?_
    obtain ⟨rfl, h0⟩ := h0
    refine ⟨is_ref.mp i0, l σ H0 Γ m0 _ _ (hs.step s0) o0 h0 fun ds m1 vs H1 h1 s1 o1 i1 => ?_⟩
    refine lk σ H1 Γ m1 _ _ ((hs.step s0).step s1) o1 h1 fun es m2 zs H2 h2 s2 o2 i2 => ?_
    obtain ⟨n1, n2, h2⟩ := h2
    exact ⟨by rw [i1.length]; exact n1, by rw [i2.length]; exact n2, mkG_of o2 ((Iss.step s2 _ i1).append i2) h2 (hq.step ((s0.trans s1).trans s2))⟩
/-- *e in an argument list -/
def aStar (s : SE) (r : SA) : SA := fun Γ m P => s Γ m fun d m1 => ∃ ds, asQ m1 d ds ∧ r Γ m1 fun es m2 => P (ds ++ es) m2
theorem la_star (he : LE X e so) (hr : LA X es sa) (hs : starEach (.Starred e sp :: es) X.env = (true, eval e X.env) :: starEach es X.env := by rfl) : LA X (.Starred e sp :: es) (aStar so sa) := by
  obtain ⟨t, pt, l⟩ := he
  obtain ⟨u, pu, l'⟩ := hr
  refine ⟨_, StX.pa_star pt pu hs, fun σ H Γ m P Q hs hm h hq => l σ H Γ m _ _ hs hm h fun d m1 v H1 h1 s1 o1 i1 => ?_⟩
  obtain ⟨ds, ha, h1⟩ := h1
  obtain ⟨a, vs, rfl, hv, iv⟩ := asQ_ok o1 ha i1
  refine ⟨a, vs, rfl, hv.symm, l' σ H1 Γ m1 _ _ (hs.step s1) o1 h1 fun es m2 ws H2 h2 s2 o2 i2 => ?_⟩
  exact hq _ m2 _ H2 h2 (s1.trans s2) o2 ((Iss.step s2 _ iv).append i2)
theorem evalArgs_two {M : Model} {A : Around} {E : Value → Shared → Prop} {s : Shared} {f : Value} {b : Bool} {x : Sem Value} {y : Bool × Sem Value} {rest : List (Bool × Sem Value)} {Q : Args → Shared → Prop}
    (h : wpAny M A (spliced ((b, x) :: y :: rest)) (fun vs s' => Q ⟨vs, []⟩ s') E s) : wpAny M A (evalArgs f true ((b, x) :: y :: rest) []) Q E s := by
  unfold evalArgs
  cases b
  · show wpAny M A (spliced ((false, x) :: y :: rest) >>= _) Q E s
    refine wpAny_bind (wpAny_mono h (fun vs s' h' => ?_) fun _ _ x => x)
    refine wpAny_holding ?_
    exact wpAny_bind (wpAny_pure (wpAny_bind (wpAny_pure (wpAny_pure h'))))
  · show wpAny M A (spliced ((true, x) :: y :: rest) >>= _) Q E s
    refine wpAny_bind (wpAny_mono h (fun vs s' h' => ?_) fun _ _ x => x)
    refine wpAny_holding ?_
    exact wpAny_bind (wpAny_pure (wpAny_bind (wpAny_pure (wpAny_pure h'))))
/-- C(*y) -/
def sMakeS (C : Addr) (T : PT1) (sa : SA) : SE := fun Γ m P => sa Γ m fun ds m1 => mkP C T ds m1 P
theorem le_makeS1 (M : Mk X.K C f) (F : FnQ false X.prog X.w X.K X.mg X.base k f T) (hr : Room (k + 1) X.A) (hm : X.mg x = some (.ref C)) (he : LE X e so) (hg : Gl X x := by rfl) (hdb : (x == ("__debug__" : Str)) = false := by decide) (hst : starEach [.Starred e sp] X.env = [(true, eval e X.env)] := by rfl) :
    LE X (.Call (.Name x p) [.Starred e sp] [] pos) (sMakeS C T (aStar so aNil)) := by
  obtain ⟨t, pt, l⟩ := he
  refine ⟨fun σ H Q => t σ H fun y H1 => ∃ a xs, y = V.ref a ∧ (SqT X.K H1 a xs ∨ SqL X.K H1 a xs) ∧ tMkG X.K C T xs H1 Q, ⟨fun pins s σ H Q I h => ?_⟩, fun σ H Γ m P Q hs hm h hq => l σ H Γ m _ _ hs hm h fun d m1 v H1 h1 s1 o1 i1 => ?_⟩
  · refine wpAny_Call_Name_kw (ld_glob I hg hm ?_ hdb)
    refine PySem.W.callWith_S (h₀ := X.base) I.ok.mod.kin M.kp (thn (pt.run pins s σ H _ I h) fun v s1 ⟨y, H1, I1, ry, a, xs, ey, hxs, q⟩ => ?_) hst
    subst ey
    obtain rfl : v = Value.ref a := ry
    exact StX.star_any I1 hxs fun us s2 I2 rv => ⟨I2.kIn, run_mkQ (us := us) M F hr I2 rv q⟩
  · obtain ⟨ds, ha, h1⟩ := h1
    obtain ⟨a, vs, rfl, hv, iv⟩ := asQ_ok o1 ha i1
    have h1 : mkP C T (ds ++ []) m1 P := h1
    rw [List.append_nil] at h1
    exact ⟨a, vs, rfl, hv.symm, mkG_of o1 iv h1 (hq.step s1)⟩
/-- C(*y, e) -/
theorem le_makeS2 {e2 : Expr} (M : Mk X.K C f) (F : FnQ false X.prog X.w X.K X.mg X.base k f T) (hr : Room (k + 1) X.A) (hm : X.mg x = some (.ref C)) (ha : LA X [.Starred e sp, e2] sa) (hg : Gl X x := by rfl) (hdb : (x == ("__debug__" : Str)) = false := by decide)
    (hst : starEach [.Starred e sp, e2] X.env = [(true, eval e X.env), (false, eval e2 X.env)] := by rfl) : LE X (.Call (.Name x p) [.Starred e sp, e2] [] pos) (sMakeS C T sa) := by
  obtain ⟨t, pa, l⟩ := ha
  refine ⟨fun σ H Q => t σ H fun vs H1 => tMkG X.K C T vs H1 Q, ⟨fun pins s σ H Q I h => ?_⟩, fun σ H Γ m P Q hs hm h hq => l σ H Γ m _ _ hs hm h fun ds m1 vs H1 h1 s1 o1 i1 => mkG_of o1 i1 h1 (hq.step s1)⟩
  refine wpAny_Call_Name_kw (ld_glob I hg hm ?_ hdb)
  have hA := pa.run pos pins s σ H _ I h
  rw [hst] at hA ⊢
  refine PySem.W.ks_call rfl (PySem.W.keeps_K M.kp) (evalArgs_two (thn hA fun us s1 ⟨vs, H1, I1, r, q⟩ => ⟨I1.kIn, ?_⟩))
  exact run_mkQ (us := us) M F hr I1 r q
end
end HB
set_option Elab.async false
set_option linter.all false
set_option maxRecDepth 100000
set_option maxHeartbeats 4000000
/-! enumerate of a tuple, zip of a tuple and a list -/
namespace HB
open PySem L2 PySem.Spec PyProof.Rows
open AutoSeq1 (wpAny_loadPart')
theorem meets_enum_newT (l : Addr) (items : Array Value) :
    Meets (Builtin.«enumerate.__new__» ⟨[.type "enumerate", .ref l], []⟩) (fun _ R s => s.heap.IsTuple l items ∧
      R (.ok (.ret (.ref (s.heap.push { cls := .type "tuple_iterator", data := .fields #[.ref l, .int 0 0] }).objs.size)))
        { s with heap := (s.heap.push { cls := .type "tuple_iterator", data := .fields #[.ref l, .int 0 0] }).push { cls := .type "enumerate", data := .fields #[.none, .bool false, .ref s.heap.objs.size, rawInt 0, .none, .none] } }) :=
  .of_wp fun prog w A R s h => by
    obtain ⟨hp, g, d, tk, os⟩ := s; obtain ⟨hl, h⟩ := h
    have hsub := sub_enumerate
    have hL : Heap.IsTuple (Shared.heap ⟨hp, g, d, tk, os⟩) l items := hl
    obtain ⟨o0, hl0, _⟩ := hl
    wp_walk using wpAny_loadPart' hl0
    refine wpAny_stack_any fun st => wpAny_pure ?_
    split
    · rename_i c _ _ _ _ _
      cases (c == Value.type "enumerate")
      · wp_walk using wpAny_loadPart' hl0, wpAny_pyIter_tuple hL
        exact ⟨_, rfl, h⟩
      · wp_walk using wpAny_loadPart' hl0, wpAny_pyIter_tuple hL
        exact ⟨_, rfl, h⟩
    · wp_walk using wpAny_loadPart' hl0, wpAny_pyIter_tuple hL
      exact ⟨_, rfl, h⟩
section
variable {prog : Program} {w : World} {A : Around} {E : Value → Shared → Prop} {s : Shared}
theorem call_enum_tup {l : Addr} {items : Array Value} {Q : Value → Shared → Prop} (hL : s.heap.IsTuple l items)
    (h : ∀ h', IsEnum h' (s.heap.objs.size + 1) s.heap.objs.size 0 .none → h'.IsTupleIter s.heap.objs.size l 0 → (∀ b o, s.heap.get? b = some o → h'.get? b = some o) → Q (.ref (s.heap.objs.size + 1)) { s with heap := h' }) :
    wpAny (model prog w) A (call (.type "enumerate") [.ref l]) Q E s := by
  refine callType_new F.called_enumerate (by decide) (F.typeCall_enumerate_1 _) (F.newCall_enumerate_1 _) (fun obj => F.args_object_init_2 obj _) F.entry_enumerate_new
    (meets_enum_newT l items) ⟨hL, ?_⟩
  have hz : (s.heap.push { cls := .type "tuple_iterator", data := .fields #[.ref l, .int 0 0] }).objs.size = s.heap.objs.size + 1 := Heap.size_push ..
  show _ ∧ _
  rw [hz]
  have he : IsEnum ((s.heap.push { cls := .type "tuple_iterator", data := .fields #[.ref l, .int 0 0] }).push
      { cls := .type "enumerate", data := .fields #[.none, .bool false, .ref s.heap.objs.size, rawInt 0, .none, .none] }) (s.heap.objs.size + 1) s.heap.objs.size 0 .none := by
    have := Heap.get?_push_size (s.heap.push { cls := .type "tuple_iterator", data := .fields #[.ref l, .int 0 0] })
      (o := { cls := .type "enumerate", data := .fields #[.none, .bool false, .ref s.heap.objs.size, rawInt 0, .none, .none] }) rfl
    rw [hz] at this; exact this
  exact ⟨⟨_, he, rfl⟩, h _ he ⟨_, Heap.get?_push_of_some _ (Heap.get?_push_size _ rfl), rfl, rfl⟩ fun b o x => Heap.get?_push_of_some _ (Heap.get?_push_of_some _ x)⟩
end
/-- the tuple at a, each item in a new pair -/
def ItT (K : PySem.W.Frag) (a : Addr) : It :=
  ⟨fun i H => ∃ (xs : List V) (x : V), SqT K H a xs ∧ xs[i]? = some x, fun i H v H' => ∃ T x, v = .ref T ∧ H T = none ∧ H' = upd H T (.tup [.int (i : Nat), x]) ∧ ∀ xs, SqT K H a xs → xs[i]? = some x, fun i H => ∃ xs : List V, SqT K H a xs ∧ xs.length = i⟩
theorem tup_ne {h : Heap} {a it : Addr} {items : Array Value} {i : Nat} (h1 : h.IsTuple a items) (h2 : h.IsTupleIter it a i) : a ≠ it := by
  rintro rfl
  obtain ⟨o, e, c, _⟩ := h1
  obtain ⟨o', e', c', _⟩ := h2
  rw [e] at e'; cases e'
  rw [c] at c'
  exact absurd (Value.type.inj c') (by decide)
theorem tup_ne2 {h : Heap} {a it b : Addr} {items : Array Value} {i : Nat} (h1 : h.IsTuple a items) (h2 : h.IsListIter it b i) : a ≠ it := by
  rintro rfl
  obtain ⟨o, e, c, _⟩ := h1
  obtain ⟨o', e', c', _⟩ := h2
  rw [e] at e'; cases e'
  rw [c] at c'
  exact absurd (Value.type.inj c') (by decide)
theorem turn_enumT {P : Program} {w : World} {K : PySem.W.Frag} {elts : List Expr} {kk : Nat} {tpos : Pos} (a e it : Addr) :
    Turn P w K (.Tuple elts kk tpos) (ItT K a) [e, it] e (fun i h => (∃ old, IsEnum h e it ((i : Nat) : Int) old) ∧ h.IsTupleIter it a i ∧ e ≠ it) where
  mem := by simp
  obj := fun i h st b hb => by
    obtain ⟨⟨old, he⟩, ⟨o, ho, hc, hd⟩, _⟩ := st
    have e' : b = e ∨ b = it := by simpa using hb
    rcases e' with z | z
    · rw [z]; exact ⟨_, he, fun v q => nomatch q⟩
    · rw [z]; exact ⟨o, ho, fun v q => by rw [hd] at q; cases q⟩
  keep := fun i h h' st k => let ⟨⟨old, he⟩, hi, hne⟩ := st; ⟨⟨old, k e (by simp) _ he⟩, hi.at fun o q => k it (by simp) o q, hne⟩
  item := by
    intro X hP hw hK hc i pins s σ H E I hf st hg
    subst hP hw hK
    obtain ⟨⟨old, he⟩, hit, hne⟩ := st
    obtain ⟨xs, x, hq, hx⟩ := hg
    obtain ⟨its, rv, p, hz⟩ := I.tuple hq
    obtain ⟨u, hu, ru⟩ := rv.get hx
    have hel : e < s.heap.objs.size := Heap.lt_size he
    have hil : it < s.heap.objs.size := by obtain ⟨_, q, _⟩ := hit; exact Heap.lt_size q
    have hta : s.heap.IsTuple a its.toArray := p
    have hae : a ≠ e := by
      rintro rfl
      obtain ⟨o, q, c, _⟩ := hta
      have he' := he
      rw [IsEnum] at he'
      rw [q] at he'; cases he'
      exact absurd (Value.type.inj c) (by decide)
    have hnE : e ∉ [it, a] := by
      simp only [List.mem_cons, List.not_mem_nil, or_false, not_or]
      exact ⟨hne, Ne.symm hae⟩
    refine wpAny_pyNext_enum_itemD (Draws.tuple (A := X.A.in1) (I.ok.hd hc) it a (tup_ne hta hit) its.toArray) he ⟨hit, hta⟩ (by
      have : i < its.length := (List.getElem?_eq_some_iff.mp hu).1
      simpa using this) hne hnE fun y h' tk hy ho hit' hT hsz hk => ?_
    have hyu : y = u := by
      have h1 : its[i]? = some y := by simpa using hy
      rw [hu] at h1; exact (Option.some.inj h1).symm
    subst hyu
    refine ⟨_, rfl, wpAny_letOwnedTupleGo_enum (s := { s with heap := h', toks := tk + 1 }) ho fun h'' he' sb => ?_⟩
    have hT2 : h''.get? s.heap.objs.size = some { cls := .type "tuple", data := .seq #[.int i tk, y] } := (sb.2 _ (Nat.ne_of_gt hel)).trans hT
    have new : ObjOk X.prog X.w (upd H s.heap.objs.size (.tup [.int (i : Nat), x])) h'' s.heap.objs.size (.tup [.int (i : Nat), x]) :=
      ⟨by show 2 ≤ sizeLine; decide, [.int i tk, y], .cons ⟨_, rfl⟩ (.cons ru .nil), ⟨_, hT2, rfl, _, rfl⟩⟩
    have I1 : Inv X pins σ (upd H s.heap.objs.size (.tup [.int (i : Nat), x])) { s with heap := h'', toks := tk + 1 } :=
      I.turnedNew (ch := [e, it]) (fun b ob hb q => (sb.2 b (fun z => hb (by simp [z]))).trans (hk b ob (fun z => hb (by simp [z])) (fun z => hb (by simp [z])) q)) hf (Nat.le_refl _) new
    refine ⟨.ref s.heap.objs.size, _, I1, rfl, ⟨_, x, rfl, I.hok.fresh (Nat.le_refl _), rfl, fun ys hy => by rw [I.tuple_inj hy hq]; exact hx⟩, ⟨⟨y, ?_⟩, hit'.1.at fun o q => (sb.2 it (Ne.symm hne)).trans q, hne⟩, fun b hb => ?_⟩
    · have e1 : ((i + 1 : Nat) : Int) = (i : Int) + 1 := by omega
      rw [e1]; exact he'
    · have hb' : b < s.heap.objs.size := by
        have e' : b = e ∨ b = it := by simpa using hb
        rcases e' with z | z
        · rw [z]; exact hel
        · rw [z]; exact hil
      rw [upd_ne (Nat.ne_of_lt hb')]
      exact (hf b hb).1
  done := by
    intro X hP hw hK hc i pins s σ H E I hf st hg
    subst hP hw hK
    obtain ⟨⟨old, he⟩, hit, hne⟩ := st
    obtain ⟨xs, hq, hx⟩ := hg
    obtain ⟨its, rv, p, hz⟩ := I.tuple hq
    obtain ⟨f0, f1, f2, f3, f4, f5⟩ := hf it (by simp)
    have hl := rv.length
    have hta : s.heap.IsTuple a its.toArray := p
    have hn : its.toArray.size = i := by rw [List.size_toArray]; omega
    subst hn
    exact wpAny_pyNext_enum_endD (Draws.tuple (A := X.A.in1) (I.ok.hd hc) it a (tup_ne hta hit) its.toArray) he ⟨hit, hta⟩ fun h' eb => ⟨rfl, I.turned (t' := s.toks) (fun b o hb q => eb b o hb q) f0 f1 f3 f4 f5⟩
  self := fun A i s Q E st h => let ⟨⟨_, he⟩, _⟩ := st; wpAny_pyIter_enum he h
def iEnT (K : PySem.W.Frag) (ta : TA) : TI := fun σ H R => ta σ H fun vs H1 => ∃ a xs, vs = [.ref a] ∧ SqT K H1 a xs ∧ R (ItT K a) H1
theorem pi_enumT {X : Cx} {e : Expr} {ta : TA} {p pos tpos : Pos} {elts : List Expr} {kk : Nat} (hg : Gl X "enumerate") (hm : X.mg "enumerate" = none) (ha : PA X [e] ta) (hs : starEach [e] X.env = [(false, eval e X.env)] := by rfl) :
    PI X (.Tuple elts kk tpos) (.Call (.Name "enumerate" p) [e] [] pos) (iEnT X.K ta) := by
  refine ⟨fun pins s σ H R I h => ?_⟩
  refine Call_ (ld_blt I hg hm boot_enumerate (PyProof.Rows.callWith_type1 (thn (ha.run pos pins s σ H _ I h) fun us s1 ⟨vs, H1, I1, r1, q1⟩ => ?_) hs rfl))
  obtain ⟨a, xs, ex, hq, q⟩ := q1
  subst ex
  cases r1 with
  | cons r rr =>
    cases rr
    cases r
    obtain ⟨its, rv, p', hz⟩ := I1.tuple hq
    refine call_enum_tup (items := its.toArray) p' fun h' he hit hk => wpAny_pyIter_enum he ?_
    have I2 : Inv X pins σ H1 { s1 with heap := h' } := I1.kept (t' := s1.toks) hk
    refine ⟨s1.heap.objs.size + 1, [s1.heap.objs.size + 1, s1.heap.objs.size], _, _, H1, rfl, I2, turn_enumT a (s1.heap.objs.size + 1) s1.heap.objs.size, ⟨⟨.none, he⟩, hit, Nat.succ_ne_self _⟩, fun b hb => ?_, q⟩
    have e' : b = s1.heap.objs.size + 1 ∨ b = s1.heap.objs.size := by simpa using hb
    have hle : s1.heap.objs.size ≤ b := by
      rcases e' with z | z
      · rw [z]; exact Nat.le_add_right _ _
      · rw [z]; exact Nat.le_refl _
    exact I1.fpOk hle (I1.hok.fresh hle)
/-! ### zip of a tuple and a list -/
abbrev zmH1 (h : Heap) (l1 : Addr) : Heap := h.push { cls := .type "tuple_iterator", data := .fields #[.ref l1, .int 0 0] }
abbrev zmH2 (h : Heap) (l1 l2 : Addr) : Heap := (zmH1 h l1).push { cls := .type "list_iterator", data := .fields #[.ref l2, .int 0 0] }
abbrev zmH3 (h : Heap) (l1 l2 : Addr) : Heap := (zmH2 h l1 l2).push { cls := .type "tuple", data := .seq #[.ref h.objs.size, .ref (zmH1 h l1).objs.size] }
abbrev zmH4 (h : Heap) (l1 l2 : Addr) : Heap := (zmH3 h l1 l2).push { cls := .type "tuple", data := .seq #[.none, .none] }
abbrev zmH5 (h : Heap) (l1 l2 : Addr) : Heap := (zmH4 h l1 l2).push { cls := .type "zip", data := .fields #[.none, .bool false, .bool false, .ref (zmH2 h l1 l2).objs.size, .ref (zmH3 h l1 l2).objs.size] }
theorem meets_zipM_new (l1 l2 : Addr) (xs ys : Array Value) :
    Meets (Builtin.«zip.__new__» ⟨[.type "zip", .ref l1, .ref l2], []⟩) (fun _ R s => s.heap.IsTuple l1 xs ∧ s.heap.IsList l2 ys ∧
      R (.ok (.ret (.ref (zmH4 s.heap l1 l2).objs.size))) { s with heap := zmH5 s.heap l1 l2 }) :=
  .of_wp fun prog w A R s h => by
    obtain ⟨hp, g, d, tk, os⟩ := s; obtain ⟨hl1, hl2, h⟩ := h
    have hsub := sub_zip
    have hL1 : Heap.IsTuple (Shared.heap ⟨hp, g, d, tk, os⟩) l1 xs := hl1
    have hL2 : Heap.IsList (Shared.heap ⟨hp.push { cls := .type "tuple_iterator", data := .fields #[.ref l1, .int 0 0] }, g, d, tk, os⟩) l2 ys := Heap.IsList.push hl2 _
    wp_walk using wpAny_pyIter_tuple hL1, wpAny_pyIter_list hL2
    exact ⟨_, rfl, h⟩
section
variable {prog : Program} {w : World} {A : Around} {E : Value → Shared → Prop} {s : Shared}
theorem call_zipM {l1 l2 : Addr} {xs ys : Array Value} {Q : Value → Shared → Prop} (hl1 : s.heap.IsTuple l1 xs) (hl2 : s.heap.IsList l2 ys)
    (h : ∀ h', IsZip h' (s.heap.objs.size + 4) (s.heap.objs.size + 2) (s.heap.objs.size + 3) .none → IsPair h' (s.heap.objs.size + 2) (.ref s.heap.objs.size) (.ref (s.heap.objs.size + 1)) →
      IsPair h' (s.heap.objs.size + 3) .none .none → h'.IsTupleIter s.heap.objs.size l1 0 → h'.IsListIter (s.heap.objs.size + 1) l2 0 →
      (∀ c o, s.heap.get? c = some o → h'.get? c = some o) → Q (.ref (s.heap.objs.size + 4)) { s with heap := h' }) :
    wpAny (model prog w) A (call (.type "zip") [.ref l1, .ref l2]) Q E s := by
  refine callType_new F.called_zip (by decide) (F.typeCall_zip_2 _ _) (F.newCall_zip_2 _ _) (fun obj => F.args_object_init_3 obj _ _) F.entry_zip_new
    (meets_zipM_new l1 l2 xs ys) ⟨hl1, hl2, ?_⟩
  have z1 : (zmH1 s.heap l1).objs.size = s.heap.objs.size + 1 := Heap.size_push ..
  have z2 : (zmH2 s.heap l1 l2).objs.size = s.heap.objs.size + 2 := by rw [Heap.size_push, z1]
  have z3 : (zmH3 s.heap l1 l2).objs.size = s.heap.objs.size + 3 := by rw [Heap.size_push, z2]
  have z4 : (zmH4 s.heap l1 l2).objs.size = s.heap.objs.size + 4 := by rw [Heap.size_push, z3]
  have g5 : (zmH5 s.heap l1 l2).get? (zmH4 s.heap l1 l2).objs.size = some _ := Heap.get?_push_size _ rfl
  have g4 : (zmH5 s.heap l1 l2).get? (zmH3 s.heap l1 l2).objs.size = some _ := Heap.get?_push_of_some _ (Heap.get?_push_size _ rfl)
  have g3 : (zmH5 s.heap l1 l2).get? (zmH2 s.heap l1 l2).objs.size = some _ := Heap.get?_push_of_some _ (Heap.get?_push_of_some _ (Heap.get?_push_size _ rfl))
  have g2 : (zmH5 s.heap l1 l2).get? (zmH1 s.heap l1).objs.size = some _ := Heap.get?_push_of_some _ (Heap.get?_push_of_some _ (Heap.get?_push_of_some _ (Heap.get?_push_size _ rfl)))
  have g1 : (zmH5 s.heap l1 l2).get? s.heap.objs.size = some _ := Heap.get?_push_of_some _ (Heap.get?_push_of_some _ (Heap.get?_push_of_some _ (Heap.get?_push_of_some _ (Heap.get?_push_size _ rfl))))
  show _ ∧ _
  rw [z2, z3, z4] at g5
  rw [z1, z2] at g3
  rw [z3] at g4
  rw [z1] at g2
  rw [z4]
  exact ⟨⟨_, g5, rfl⟩, h _ g5 g3 g4 ⟨_, g1, rfl, rfl⟩ ⟨_, g2, rfl, rfl⟩ fun c o x =>
    Heap.get?_push_of_some _ (Heap.get?_push_of_some _ (Heap.get?_push_of_some _ (Heap.get?_push_of_some _ (Heap.get?_push_of_some _ x))))⟩
end
/-- the tuple at a and the list at b, the items in new pairs -/
def ItM (K : PySem.W.Frag) (a b : Addr) : It :=
  ⟨fun i H => ∃ (xs ys : List V) (x y : V), SqT K H a xs ∧ SqL K H b ys ∧ xs[i]? = some x ∧ ys[i]? = some y,
    fun i H v H' => ∃ T x y, v = .ref T ∧ H T = none ∧ H' = upd H T (.tup [x, y]) ∧ (∀ xs, SqT K H a xs → xs[i]? = some x) ∧ ∀ ys, SqL K H b ys → ys[i]? = some y,
    fun i H => ∃ xs ys : List V, SqT K H a xs ∧ SqL K H b ys ∧ i = xs.length ∧ i = ys.length⟩
theorem zsep {z TI TO i1 i2 a b : Addr} (D : ZipApart z TI TO i1 i2 a b) : ZipSep2 z TI TO i1 i2 [i1, a] [i2, b] where
  TIz := D.TIz
  TOz := D.TOz
  TITO := D.TITO
  TIi1 := D.TIi1
  mem1 := by simp
  zf1 := by simp only [List.mem_cons, List.not_mem_nil, or_false, not_or]; exact ⟨D.i1z.symm, D.l1z.symm⟩
  Tf1 := by simp only [List.mem_cons, List.not_mem_nil, or_false, not_or]; exact ⟨D.TOi1, D.l1TO.symm⟩
  TIi2 := D.TIi2
  mem2 := by simp
  zf2 := by simp only [List.mem_cons, List.not_mem_nil, or_false, not_or]; exact ⟨D.i2z.symm, D.l2z.symm⟩
  Tf2 := by simp only [List.mem_cons, List.not_mem_nil, or_false, not_or]; exact ⟨D.TOi2, D.l2TO.symm⟩
  sep1_2 := by simp only [List.mem_cons, List.not_mem_nil, or_false, not_or]; exact ⟨D.i12, D.l2i1.symm⟩
  sep2_1 := by simp only [List.mem_cons, List.not_mem_nil, or_false, not_or]; exact ⟨D.i12.symm, D.l1i2.symm⟩
theorem turn_zipM {P : Program} {w : World} {K : PySem.W.Frag} {elts : List Expr} {kk : Nat} {tpos : Pos} {a b z TI TO i1 i2 : Addr} (D : ZipApart z TI TO i1 i2 a b) :
    Turn P w K (.Tuple elts kk tpos) (ItM K a b) [z, TI, TO, i1, i2] z (fun i h => IsZip h z TI TO .none ∧ IsPair h TI (.ref i1) (.ref i2) ∧ (∃ x y, IsPair h TO x y) ∧ h.IsTupleIter i1 a i ∧ h.IsListIter i2 b i) where
  mem := by simp
  obj := fun i h st c hc => by
    obtain ⟨hz, hTI, ⟨x, y, hTO⟩, ⟨o1, e1, _, d1⟩, ⟨o2, e2, _, d2⟩⟩ := st
    have e' : c = z ∨ c = TI ∨ c = TO ∨ c = i1 ∨ c = i2 := by simpa using hc
    rcases e' with q | q | q | q | q
    · rw [q]; exact ⟨_, hz, fun v q => nomatch q⟩
    · rw [q]; exact ⟨_, hTI, fun v q => nomatch q⟩
    · rw [q]; exact ⟨_, hTO, fun v q => nomatch q⟩
    · rw [q]; exact ⟨o1, e1, fun v q => by rw [d1] at q; cases q⟩
    · rw [q]; exact ⟨o2, e2, fun v q => by rw [d2] at q; cases q⟩
  keep := fun i h h' st k => by
    obtain ⟨hz, hTI, ⟨x, y, hTO⟩, h1, h2⟩ := st
    exact ⟨k z (by simp) _ hz, k TI (by simp) _ hTI, ⟨x, y, k TO (by simp) _ hTO⟩, h1.at fun o q => k i1 (by simp) o q, h2.at fun o q => k i2 (by simp) o q⟩
  item := by
    intro X hP hw hK hc i pins s σ H E I hf st hg
    subst hP hw hK
    obtain ⟨hz, hTI, ⟨x0, y0, hTO⟩, h1, h2⟩ := st
    obtain ⟨xs, ys, x, y, hqx, hqy, hx, hy⟩ := hg
    obtain ⟨its, rv, p, _⟩ := I.tuple hqx
    obtain ⟨its2, rv2, p2, _⟩ := I.list hqy
    obtain ⟨u, hu, ru⟩ := rv.get hx
    obtain ⟨u2, hu2, ru2⟩ := rv2.get hy
    have hzl : z < s.heap.objs.size := Heap.lt_size hz
    have q1 : i < its.toArray.size := by
      have : i < its.length := (List.getElem?_eq_some_iff.mp hu).1
      simpa using this
    have q2 : i < its2.toArray.size := by
      have : i < its2.length := (List.getElem?_eq_some_iff.mp hu2).1
      simpa using this
    refine wpAny_pyNext_zipD2_item (zsep D) (Draws.tuple (A := X.A.in1) (I.ok.hd hc) i1 a D.l1i1 its.toArray) (Draws.list (A := X.A.in1) (I.ok.hd hc) i2 b D.l2i2 its2.toArray) hz hTI hTO ⟨h1, p⟩ ⟨h2, p2.isList⟩ q1 q2 fun v1 v2 h' tk hv1 hv2 z' TO' h1' h2' hT hsz hk => ?_
    have e1 : v1 = u := by
      have h1 : its[i]? = some v1 := by simpa using hv1
      rw [hu] at h1; exact (Option.some.inj h1).symm
    have e2 : v2 = u2 := by
      have h1 : its2[i]? = some v2 := by simpa using hv2
      rw [hu2] at h1; exact (Option.some.inj h1).symm
    subst e1 e2
    refine ⟨_, rfl, wpAny_letOwnedTupleGo_zip (s := { s with heap := h', toks := tk }) z' fun h'' z'' sb => ?_⟩
    have hT2 : h''.get? s.heap.objs.size = some { cls := .type "tuple", data := .seq #[v1, v2] } := (sb.2 _ (Nat.ne_of_gt hzl)).trans hT
    have new : ObjOk X.prog X.w (upd H s.heap.objs.size (.tup [x, y])) h'' s.heap.objs.size (.tup [x, y]) :=
      ⟨by show 2 ≤ sizeLine; decide, [v1, v2], .cons ru (.cons ru2 .nil), ⟨_, hT2, rfl, _, rfl⟩⟩
    have I1 : Inv X pins σ (upd H s.heap.objs.size (.tup [x, y])) { s with heap := h'', toks := tk } :=
      I.turnedNew (t' := tk) (ch := [z, TI, TO, i1, i2]) (fun c o hb q => (sb.2 c (fun q' => hb (by simp [q']))).trans (hk c o (fun q' => hb (by simp [q'])) (fun q' => hb (by simp [q'])) (fun q' => hb (by simp [q'])) (fun q' => hb (by simp [q'])) q)) hf (Nat.le_refl _) new
    refine ⟨.ref s.heap.objs.size, _, I1, rfl, ⟨_, x, y, rfl, I.hok.fresh (Nat.le_refl _), rfl, fun l hl => by rw [I.tuple_inj hl hqx]; exact hx, fun l hl => by rw [I.list_inj hl hqy]; exact hy⟩, ⟨z'', ?_, ⟨v1, v2, ?_⟩, ?_, ?_⟩, fun c hcm => ?_⟩
    · exact (sb.2 _ D.TIz).trans (hk _ _ D.TIz D.TITO D.TIi1 D.TIi2 hTI)
    · exact (sb.2 _ D.TOz).trans TO'
    · exact h1'.1.at fun o q => (sb.2 _ D.i1z).trans q
    · exact h2'.1.at fun o q => (sb.2 _ D.i2z).trans q
    · have hlt : c < s.heap.objs.size := by
        have e' : c = z ∨ c = TI ∨ c = TO ∨ c = i1 ∨ c = i2 := by simpa using hcm
        rcases e' with q | q | q | q | q
        · rw [q]; exact hzl
        · rw [q]; exact Heap.lt_size hTI
        · rw [q]; exact Heap.lt_size hTO
        · rw [q]; obtain ⟨_, e1, _⟩ := h1; exact Heap.lt_size e1
        · rw [q]; obtain ⟨_, e2, _⟩ := h2; exact Heap.lt_size e2
      rw [upd_ne (Nat.ne_of_lt hlt)]
      exact (hf c hcm).1
  done := by
    intro X hP hw hK hc i pins s σ H E I hf st hg
    subst hP hw hK
    obtain ⟨hz, hTI, ⟨x0, y0, hTO⟩, h1, h2⟩ := st
    obtain ⟨xs, ys, hqx, hqy, he1, he2⟩ := hg
    obtain ⟨its, rv, p, _⟩ := I.tuple hqx
    obtain ⟨its2, rv2, p2, _⟩ := I.list hqy
    have l1 := rv.length
    have l2 := rv2.length
    have n1 : i = its.toArray.size := by rw [List.size_toArray]; omega
    have n2 : i = its2.toArray.size := by rw [List.size_toArray]; omega
    exact wpAny_pyNext_zipD2_end (zsep D) (Draws.tuple (A := X.A.in1) (I.ok.hd hc) i1 a D.l1i1 its.toArray) (Draws.list (A := X.A.in1) (I.ok.hd hc) i2 b D.l2i2 its2.toArray) hz hTI hTO ⟨h1, p⟩ ⟨h2, p2.isList⟩ (Nat.le_of_eq n1) (Nat.le_of_eq n2) (.inl n1)
      fun h' tk hk => ⟨rfl, I.turnedL (t' := tk) (ch := [z, TI, TO, i1, i2]) (fun c o hb q => hk c o (fun q' => hb (by simp [q'])) (fun q' => hb (by simp [q'])) (fun q' => hb (by simp [q'])) (fun q' => hb (by simp [q'])) q) hf⟩
  self := fun A i s Q E st h => wpAny_pyIter_zip st.1 h
def iZpM (K : PySem.W.Frag) (ta : TA) : TI := fun σ H R => ta σ H fun vs H1 => ∃ a b xs ys, vs = [.ref a, .ref b] ∧ SqT K H1 a xs ∧ SqL K H1 b ys ∧ R (ItM K a b) H1
theorem pi_zipM {X : Cx} {e e2 : Expr} {ta : TA} {p pos tpos : Pos} {elts : List Expr} {kk : Nat} (hg : Gl X "zip") (hm : X.mg "zip" = none) (ha : PA X [e, e2] ta)
    (hs : starEach [e, e2] X.env = (false, eval e X.env) :: starEach [e2] X.env := by rfl) (hpl : (backTo pos (starEach [e2] X.env)).any (·.1) = false := by rfl) :
    PI X (.Tuple elts kk tpos) (.Call (.Name "zip" p) [e, e2] [] pos) (iZpM X.K ta) := by
  refine ⟨fun pins s σ H R I h => ?_⟩
  refine Call_ (ld_blt I hg hm PyProof.Rows.boot_zip (PyProof.Rows.callWith_type1 (thn (ha.run pos pins s σ H _ I h) fun us s1 ⟨vs, H1, I1, r1, q1⟩ => ?_) hs hpl))
  obtain ⟨a, b, xs, ys, ex, hqx, hqy, q⟩ := q1
  subst ex
  cases r1 with
  | cons r rr =>
    cases rr with
    | cons r' rr =>
      cases rr
      cases r
      cases r'
      obtain ⟨its, rv, p1, _⟩ := I1.tuple hqx
      obtain ⟨its2, rv2, p2, _⟩ := I1.list hqy
      obtain ⟨o1, ho1, _⟩ := id p1
      have la : a < s1.heap.objs.size := Heap.lt_size ho1
      have lb : b < s1.heap.objs.size := p2.lt
      refine call_zipM (show s1.heap.IsTuple a its.toArray from p1) p2.isList fun h' hz hTI hTO h1 h2 hk => wpAny_pyIter_zip hz ?_
      have I2 : Inv X pins σ H1 { s1 with heap := h' } := I1.kept (t' := s1.toks) hk
      refine ⟨s1.heap.objs.size + 4, [s1.heap.objs.size + 4, s1.heap.objs.size + 2, s1.heap.objs.size + 3, s1.heap.objs.size, s1.heap.objs.size + 1], _, _, H1, rfl, I2, turn_zipM (PySem.W.ktu_apart s1.heap.objs.size a b la lb), ⟨hz, hTI, ⟨_, _, hTO⟩, h1, h2⟩, fun c hcm => ?_, q⟩
      have e' : c = s1.heap.objs.size + 4 ∨ c = s1.heap.objs.size + 2 ∨ c = s1.heap.objs.size + 3 ∨ c = s1.heap.objs.size ∨ c = s1.heap.objs.size + 1 := by simpa using hcm
      have hle : s1.heap.objs.size ≤ c := by
        rcases e' with z | z | z | z | z
        · rw [z]; exact Nat.le_add_right _ _
        · rw [z]; exact Nat.le_add_right _ _
        · rw [z]; exact Nat.le_add_right _ _
        · rw [z]; exact Nat.le_refl _
        · rw [z]; exact Nat.le_add_right _ _
      exact I1.fpOk hle (I1.hok.fresh hle)
end HB
set_option Elab.async false
set_option linter.all false
set_option maxRecDepth 100000
set_option maxHeartbeats 4000000
/-! enumerate of a tuple, zips, by plain data -/
namespace HB
open PySem L2
section
variable {X : Cx} {e e2 : Expr} {p pos tpos : Pos} {elts : List Expr} {kk : Nat} {sa : SA}
def iEnumT (s : SA) : SI := fun Γ m P => s Γ m fun es m1 => ∃ ds, es = [.tup ds] ∧ P ds.length (fun i => .tup [.int i, dget ds i]) (fun _ => True) m1
theorem li_enumT (hm : X.mg "enumerate" = none) (ha : LA X [e] sa) (hg : Gl X "enumerate" := by rfl) (hs : starEach [e] X.env = [(false, eval e X.env)] := by rfl) :
    LI X (.Tuple elts kk tpos) (.Call (.Name "enumerate" p) [e] [] pos) (iEnumT sa) := by
  obtain ⟨t, pt, l⟩ := ha
  refine ⟨_, pi_enumT hg hm pt hs, fun σ H Γ m P Q hs hm h hq => ?_⟩
  refine l σ H Γ m _ _ hs hm h fun es m1 vs H1 h1 s1 o1 i1 => ?_
  obtain ⟨ds, rfl, h1⟩ := h1
  obtain ⟨v, r, rfl, iv, ir⟩ := iss_cons.mp i1
  obtain rfl := iss_nil.mp ir
  obtain ⟨a, vs, rfl, ha, iw⟩ := is_tup.mp iv
  refine ⟨a, vs, rfl, ha.sq, hq _ _ _ m1 H1 _ h1 s1 o1 ⟨fun i H' m' hi st o' ok => ?_, fun H' m' st o' ok => ?_, fun i H' m' x H2 hi st o' ok y => ?_⟩⟩
  · have hl := iw.length
    exact ⟨vs, vs[i]'(by omega), (ha.step st).sq, by simp [show i < vs.length by omega]⟩
  · exact ⟨vs, (ha.step st).sq, iw.length⟩
  · obtain ⟨T, x, rfl, hT, rfl, y⟩ := y
    exact newPair o' hT (is_int.mpr rfl) ((Iss.step st _ iw).at (y vs (ha.step st).sq))
/-- zip of a tuple and a list, of one length -/
def iZipM (s : SA) : SI := fun Γ m P => s Γ m fun es m1 => ∃ ds xs, es = [.tup ds, .lst xs] ∧ ds.length = xs.length ∧ P ds.length (fun i => .tup [dget ds i, dget xs i]) (fun _ => True) m1
theorem lst_step {K : PySem.W.Frag} {H H' : Hp} {m m' : Mem} {a : Addr} {vs : List V} (h : H a = some (.lst vs)) (h' : m a = none) (st : Step H m H' m') : SqL K H' a vs := SqL.of (st.keep _ _ h h').1
theorem li_zipM (hm : X.mg "zip" = none) (ha : LA X [e, e2] sa) (hg : Gl X "zip" := by rfl) (hs : starEach [e, e2] X.env = (false, eval e X.env) :: starEach [e2] X.env := by rfl) (hpl : (backTo pos (starEach [e2] X.env)).any (·.1) = false := by rfl) :
    LI X (.Tuple elts kk tpos) (.Call (.Name "zip" p) [e, e2] [] pos) (iZipM sa) := by
  obtain ⟨t, pt, l⟩ := ha
  refine ⟨_, pi_zipM hg hm pt hs hpl, fun σ H Γ m P Q hs hm h hq => ?_⟩
  refine l σ H Γ m _ _ hs hm h fun es m1 vs H1 h1 s1 o1 i1 => ?_
  obtain ⟨ds, xs, rfl, hlen, h1⟩ := h1
  obtain ⟨v, r, rfl, iv, ir⟩ := iss_cons.mp i1
  obtain ⟨v2, r2, rfl, iv2, ir2⟩ := iss_cons.mp ir
  obtain rfl := iss_nil.mp ir2
  obtain ⟨a, vs, rfl, ha, iw⟩ := is_tup.mp iv
  obtain ⟨b, ws, rfl, hb, hmb, iw2⟩ := is_lst.mp iv2
  have hl := iw.length
  have hl2 := iw2.length
  refine ⟨a, b, vs, ws, rfl, ha.sq, SqL.of hb, hq _ _ _ m1 H1 _ h1 s1 o1 ⟨fun i H' m' hi st o' ok => ?_, fun H' m' st o' ok => ?_, fun i H' m' x H2 hi st o' ok y => ?_⟩⟩
  · exact ⟨vs, ws, vs[i]'(by omega), ws[i]'(by omega), (ha.step st).sq, lst_step hb hmb st, by simp [show i < vs.length by omega], by simp [show i < ws.length by omega]⟩
  · exact ⟨vs, ws, (ha.step st).sq, lst_step hb hmb st, hl.symm, by omega⟩
  · obtain ⟨T, x, z, rfl, hT, rfl, y1, y2⟩ := y
    exact newPair o' hT ((Iss.step st _ iw).at (y1 vs (ha.step st).sq)) ((Iss.step st _ iw2).at (y2 ws (lst_step hb hmb st)))
/-- zip of two tuples, of one length -/
def iZipT (s : SA) : SI := fun Γ m P => s Γ m fun es m1 => ∃ ds xs, es = [.tup ds, .tup xs] ∧ ds.length = xs.length ∧ P ds.length (fun i => .tup [dget ds i, dget xs i]) (fun _ => True) m1
theorem li_zipT (hm : X.mg "zip" = none) (ha : LA X [e, e2] sa) (hg : Gl X "zip" := by rfl) (hs : starEach [e, e2] X.env = (false, eval e X.env) :: starEach [e2] X.env := by rfl) (hpl : (backTo pos (starEach [e2] X.env)).any (·.1) = false := by rfl) :
    LI X (.Tuple elts kk tpos) (.Call (.Name "zip" p) [e, e2] [] pos) (iZipT sa) := by
  obtain ⟨t, pt, l⟩ := ha
  refine ⟨_, RZ.pi_zipA hg hm pt hs hpl, fun σ H Γ m P Q hs hm h hq => ?_⟩
  refine l σ H Γ m _ _ hs hm h fun es m1 vs H1 h1 s1 o1 i1 => ?_
  obtain ⟨ds, xs, rfl, hlen, h1⟩ := h1
  obtain ⟨v, r, rfl, iv, ir⟩ := iss_cons.mp i1
  obtain ⟨v2, r2, rfl, iv2, ir2⟩ := iss_cons.mp ir
  obtain rfl := iss_nil.mp ir2
  obtain ⟨a, vs, rfl, ha, iw⟩ := is_tup.mp iv
  obtain ⟨b, ws, rfl, hb, iw2⟩ := is_tup.mp iv2
  have hl := iw.length
  have hl2 := iw2.length
  refine ⟨a, b, vs, ws, rfl, .inr ⟨ha.sq, hb.sq, hq _ _ _ m1 H1 _ h1 s1 o1 ⟨fun i H' m' hi st o' ok => ?_, fun H' m' st o' ok => ?_, fun i H' m' x H2 hi st o' ok y => ?_⟩⟩⟩
  · exact ⟨vs, ws, vs[i]'(by omega), ws[i]'(by omega), (ha.step st).sq, (hb.step st).sq, by simp [show i < vs.length by omega], by simp [show i < ws.length by omega]⟩
  · exact ⟨vs, ws, (ha.step st).sq, (hb.step st).sq, .inl (by omega)⟩
  · obtain ⟨T, x, z, rfl, hT, rfl, y1, y2⟩ := y
    exact newPair o' hT ((Iss.step st _ iw).at (y1 vs (ha.step st).sq)) ((Iss.step st _ iw2).at (y2 ws (hb.step st).sq))
end
end HB
set_option Elab.async false
set_option linter.all false
set_option maxRecDepth 100000
set_option maxHeartbeats 4000000
/-! repr, a written dict, a try that runs through -/
namespace HB
open PySem L2
mutual
theorem noDictD : ∀ (d : D) {p : PyData}, toPy d = some p → p.hasDict = false
  | .non, _, e => by simp only [toPy, Option.some.injEq] at e; rw [← e]; simp only [PyData.hasDict]
  | .bl _, _, e => by simp only [toPy, Option.some.injEq] at e; rw [← e]; simp only [PyData.hasDict]
  | .int _, _, e => by simp only [toPy, Option.some.injEq] at e; rw [← e]; simp only [PyData.hasDict]
  | .str _, _, e => by simp only [toPy, Option.some.injEq] at e; rw [← e]; simp only [PyData.hasDict]
  | .lst ds, _, e => by
    cases q : toPys ds with
    | none => simp only [toPy, q] at e; cases e
    | some ps =>
      simp only [toPy, q, Option.some.injEq] at e
      rw [← e]; simp only [PyData.hasDict]; exact noDictDs ds q
  | .tup ds, _, e => by
    cases q : toPys ds with
    | none => simp only [toPy, q] at e; cases e
    | some ps =>
      simp only [toPy, q, Option.some.injEq] at e
      rw [← e]; simp only [PyData.hasDict]; exact noDictDs ds q
  | .ref _, _, e => by simp only [toPy] at e; cases e
  | .ty _, _, e => by simp only [toPy] at e; cases e
  | .obj _ _ _, _, e => by simp only [toPy] at e; cases e
  | .scr _, _, e => by simp only [toPy] at e; cases e
theorem noDictDs : ∀ (ds : List D) {ps : List PyData}, toPys ds = some ps → PyData.hasDictAll ps = false
  | [], _, e => by simp only [toPys, Option.some.injEq] at e; rw [← e]; simp only [PyData.hasDictAll]
  | d :: ds, _, e => by
    cases q1 : toPy d with
    | none => simp only [toPys, q1] at e; cases e
    | some p =>
      cases q2 : toPys ds with
      | none => simp only [toPys, q1, q2] at e; cases e
      | some ps =>
        simp only [toPys, q1, q2, Option.some.injEq] at e
        rw [← e]
        simp only [PyData.hasDictAll, noDictD d q1, noDictDs ds q2, Bool.or_self]
end
section
variable {X : Cx}
/-- repr of data -/
def rhoRepr : RhoA := fun ds m P => match ds with
  | [d] => ∃ p, toPy d = some p ∧ p.showable = true ∧ p.depth ≤ 60 ∧ p.shown.length ≤ 1000000 ∧ (∀ b, d ≠ .bl b) ∧ (∀ x, d ≠ .str x) ∧ P (.str p.shown) m
  | _ => False
theorem lc_repr (hg : X.A.guards = some []) (hu : X.A.units + 64 < cLine) : LC X (.builtin "repr") rhoRepr := by
  refine ⟨fun xs H Q => ∃ v d p, xs = [v] ∧ toPy d = some p ∧ Dp X.K H v p ∧ p.showable = true ∧ p.depth ≤ 60 ∧ p.shown.length ≤ 1000000 ∧ (∀ b, d ≠ .bl b) ∧ (∀ x, d ≠ .str x) ∧ Q (.str p.shown) H, fun pins s σ H xs us Q I r h => ?_, fun ds vs H m P Q o i h hq => ?_⟩
  · obtain ⟨v, d, p, rfl, ep, hp, hs, hd, hz, nb, ns, q⟩ := h
    obtain ⟨u, rfl, ru⟩ := vals1 r
    obtain ⟨as, rr⟩ := Dp.reads I p v u hp ru
    have deep : ∀ a, u = .ref a → wpAny (model X.prog X.w) X.A (call (.builtin "repr") [u]) (EP X pins σ Q) X.xe s := by
      rintro a rfl
      exact repr_of_reads' rr hs (PyData.noDict_hsm (noDictD d ep)) hg (by omega) (fun _ _ e => e) (fun h' u tk hk => ⟨.str p.shown, H, I.kept hk, ⟨_, rfl⟩, q⟩) (line6 hz)
    cases d with
    | non =>
      simp only [toPy, Option.some.injEq] at ep
      subst ep
      cases rr
      exact PySem.P.repr_of_none ⟨.str _, H, I.tok _, ⟨_, rfl⟩, q⟩
    | int k =>
      simp only [toPy, Option.some.injEq] at ep
      subst ep
      cases rr
      have hk : k.natAbs.log2 < 1920 := by simpa [PyData.showable] using hs
      exact PySem.P.repr_of_int hk ⟨.str _, H, I.tok _, ⟨_, rfl⟩, q⟩
    | bl b => exact absurd rfl (nb b)
    | str x => exact absurd rfl (ns x)
    | lst ds =>
      cases q1 : toPys ds with
      | none => simp only [toPy, q1] at ep; cases ep
      | some ps =>
        simp only [toPy, q1, Option.some.injEq] at ep
        subst ep
        cases rr
        exact deep _ rfl
    | tup ds =>
      cases q1 : toPys ds with
      | none => simp only [toPy, q1] at ep; cases ep
      | some ps =>
        simp only [toPy, q1, Option.some.injEq] at ep
        subst ep
        cases rr
        exact deep _ rfl
    | _ => simp only [toPy] at ep; cases ep
  · match ds, h with
    | [d], h =>
      obtain ⟨v, rfl, iv⟩ := iss1 i
      obtain ⟨p, e1, e2, e3, e4, nb, ns, h⟩ := h
      exact ⟨v, d, p, rfl, e1, dp_of d iv e1, e2, e3, e4, nb, ns, hq _ m _ H h Step.refl o (is_str.mpr rfl)⟩
/-! a dict of the module: the keys there -/
structure KForms (K : PySem.W.Frag) (w : World) (A : Addr) (kvs : List (Str × D)) : Prop where
  low : (A == sysModules) = false
  at_ : ∀ z d, kvs.lookup z = some d → ∃ v, KDct K w A z v ∧ ∀ H m, Is K H m d v
def rhoNotInK (A : Addr) (kvs : List (Str × D)) : Rho := fun dx dy m P => dy = .ref A ∧ ∃ z d, dx = .str z ∧ kvs.lookup z = some d ∧ P (.bl false) m
theorem lo_notinK {A : Addr} {kvs : List (Str × D)} (hk : KForms X.K X.w A kvs) : LOp X (compareOp .NotIn) (rhoNotInK A kvs) := by
  refine ⟨fun x y H Q => ∃ z v, x = .str z ∧ y = .ref A ∧ KDct X.K X.w A z v ∧ Q (.bl false) H, fun pins s σ H x y v u Q I rx ry h => ?_, fun x y dx dy H m P Q o ix iy h hq => ?_⟩
  · obtain ⟨z, v0, rfl, rfl, ⟨es, n, u0, hl, hkl, e, ru⟩, q⟩ := h
    obtain rfl : u = Value.ref A := ry
    obtain ⟨t, rfl⟩ := rx
    have hm := PySem.W.mapOf_K (prog := X.prog) (w := X.w) I.kIn hl hkl
    refine wpAny_notIn_of (strKind_is X.prog X.w z t) hk.low hm ?_
    rw [PySem.W.find_K hl e]
    exact ⟨.bl false, H, I.tok _, rfl, q⟩
  · obtain ⟨rfl, z, d, rfl, hl, h⟩ := h
    obtain ⟨v, hv, _⟩ := hk.at_ z d hl
    exact ⟨z, v, is_str.mp ix, is_ref.mp iy, hv, hq _ m _ H h Step.refl o (is_bl.mpr rfl)⟩
def rhoIxK (A : Addr) (kvs : List (Str × D)) : Rho := fun dx dy m P => dx = .ref A ∧ ∃ z d, dy = .str z ∧ kvs.lookup z = some d ∧ P d m
theorem le_ixK {A : Addr} {kvs : List (Str × D)} {o i : Expr} {pos : Pos} {so si : SE} (hk : KForms X.K X.w A kvs) (ho : LE X o so) (hi : LE X i si) (hs : PlainIx i := by intro _ _; rfl) : LE X (.Subscript o i pos) (sBin (rhoIxK A kvs) so si) := by
  obtain ⟨t, pt, l⟩ := ho
  obtain ⟨u, pu, l'⟩ := hi
  refine ⟨_, pe_ix ix_kdict pt pu hs, lift_op (fun x y dx dy H m P Q o ix iy h hq => ?_) l l'⟩
  obtain ⟨rfl, z, d, rfl, hl, h⟩ := h
  obtain ⟨v, hv, hi⟩ := hk.at_ z d hl
  exact ⟨A, z, v, is_ref.mp ix, is_str.mp iy, hv, hq d m v H h Step.refl o (hi H m)⟩
/-! a try that runs through -/
theorem ls_try {body : List Stmt} {s : SS} {h₀ : ExceptHandler} {hs : List ExceptHandler} {pos : Pos} (hb : LSs X.nox body s) : LS X (.Try body (h₀ :: hs) [] [] pos) s := by
  obtain ⟨t, p, l⟩ := hb
  exact ⟨t, ps_try_thru0 p, l⟩
end
end HB
set_option Elab.async false
set_option linter.all false
set_option maxRecDepth 100000
set_option maxHeartbeats 4000000
/-! an own error raised in a method, caught by its caller -/
namespace HB
open PySem L2 PySem.Spec PyProof.Rows
section
variable {X : Cx} {C : Addr} {bmB : List Value} {B newId initId : String}
/-- X() -/
theorem pmk_own0 {x : Str} {p pos : Pos} (F : ExcBaseFacts B newId initId bmB) (q : PySem.W.excIn X.K C bmB newId = true) (gC : X.mg x = some (.ref C)) (kC : PySem.W.keepIn X.K (.ref C) = true) (r : Raises X (.ref C)) (hg : Gl X x)
    (hdb : (x == ("__debug__" : Str)) = false := by decide) : PMk X (.Call (.Name x p) [] [] pos) (fun _ H Q => Q (.ref C) none H) := by
  intro pins s σ H Q I h
  refine wpAny_Call_Name_kw (ld_glob I hg gC ?_ hdb)
  refine PySem.W.callWith_K0 I.kIn kC ?_
  show wpAny _ _ (call (.ref C) []) _ _ _
  obtain ⟨bm, N, nm, qn, bs, hdct, sn, sub, ab, col, dd, k0, k1, k2, k3, k5, mN, hC, hN, hni, T⟩ := exc_obj I.kIn q
  refine wpAny_call_exc_subT F T hC hN hni (fun h' e hm => ?_) (Nat.zero_le _)
  exact mk_of I hm r h (I.hok.gone hm.new)
end
/-- what the raising method promises: U, and the error -/
def SpU (K : PySem.W.Frag) (C : Addr) (U : List D → Mem → Prop) : Sp := fun vs H _ E => ∃ ds m, Iss K H m ds vs ∧ MOk K H m ∧ U ds m ∧ ∀ H', Step H m H' m → MOk K H' m → E (.ref C) none H'
section
variable {P : Program} {w : World} {K : PySem.W.Frag} {mg : Str → Option Value} {base : Heap} {k : Nat} {f C : Addr} {name qual : Str} {params : Arguments} {body : List Stmt} {scope : Scope} {dvs : List V} {kws : List (Str × V)} {fd : FuncData} {N ps : List Str} {bmB : List Value} {newId : String}
theorem fn_raises {U : List D → Mem → Prop} {c : Expr} {sc : ST} {x : Str} {np cp rp ip : Pos} {st2 : List Stmt} (F : FunD K name qual params body scope dvs kws f fd) (S : FnScope N ps scope) (hbd : body = .If c [.Raise (some (.Call (.Name x np) [] [] cp)) none rp] [] ip :: st2)
    (FB : ExcBaseFacts "ValueError" newId "ValueError.__init__" bmB) (q : PySem.W.excIn K C bmB newId = true) (gC : mg x = some (.ref C)) (kC : PySem.W.keepIn K (.ref C) = true) (h1 : PySem.W.subIn K (.ref C) (.type "BaseException") = some true) (h2 : PySem.W.typeIn K (.ref C) = some (.type "type"))
    (hgl : scope.names.lookup x = some .globalImplicit) (hdb : (x == ("__debug__" : Str)) = false)
    (hc : ∀ (cdv : Value) (A : Around) (outer : List PySem.Env) (st : Shared) (H : Hp) (E : XK), Room k (A.deeper (envOfC qual scope st.heap.objs.size f cdv)) → LT (cxOf (L2.CX P w) P w K mg base N qual scope f cdv A outer st H E) c sc)
    (hl : ∀ ds m, U ds m → ds.length = ps.length) (hU : ∀ ds m, U ds m → sc (startG N ds) m fun b m' => b = true ∧ m' = m) : FnOk P w K mg base (L2.CX P w) (k + 1) f fd ps (SpU K C U) := by
  obtain ⟨oc, od, dV, kV, doc, pm, an, cdv, ct, osl, rfl, lk, hcd, _, _⟩ := F.ex
  refine fn_of lk hcd S (fun vs H Q E h => ?_) fun A outer s H vs Q E hr h => ?_
  · obtain ⟨ds, m, i, _, hu, _⟩ := h
    rw [i.length]; exact hl ds m hu
  · obtain ⟨ds, m, i, o, hu, hE⟩ := h
    obtain ⟨t, pt, lt⟩ := hc cdv A outer s H E hr
    subst hbd
    have tk : L2.Takes (cxOf (L2.CX P w) P w K mg base N qual scope f cdv A outer s H E) (fun cls d _ H => E cls d H) := takes_of rfl rfl rfl rfl
    refine ⟨_, pss_cons (ps_if pt (pss_one (ps_raise rfl tk (pmk_own0 FB q gC kC (raises_own h1 h2) hgl hdb))) pss_never) pss_never, ?_⟩
    refine lt (L2.start N vs) H (startG N ds) m _ _ (slots_start i) o (hU ds m hu) fun b m1 H1 hb s1 o1 => ?_
    obtain ⟨rfl, rfl⟩ := hb
    exact hE H1 s1 o1
end
section
variable {X : Cx} {k : Nat} {f C D0 : Addr} {fd : FuncData} {ps : List Str} {U : List D → Mem → Prop} {x m : Str} {o : Expr} {so : SE} {np pos pos' cpos apos epos rp : Pos} {j : Nat} {cp : Pos}
def sCaught (D0 : Addr) (m : Str) (U : List D → Mem → Prop) (so : SE) : SS := fun E Γ m0 => so Γ m0 fun d m1 => (∃ fs, asO m1 d D0 fs ∧ fs.lookup m = none) ∧ U [d] m1 ∧ E.rt (.bl true) m1
theorem ls_caught {pl : Sem Bool} (hs : X.stack = X.env :: X.outer) (hf : X.env.frame = some X.env.locals) (F : FnOk X.prog X.w X.K X.mg X.base (L2.CX X.prog X.w) k f fd ps (SpU X.K C U)) (hr : Room k X.A) (hb : Binds X.K fd ps []) (c : Cls X.K D0) (hm : Meth X.K D0 m f)
    (gC : X.mg x = some (.ref C)) (hg : Gl X x) (hdb : (x == ("__debug__" : Str)) = false) (hex : PySem.W.exmOne X.K (.ref C) (.ref C) = some true)
    (ho : ∀ pn xe, LE (X.tr pn xe) o so)
    (hsw : swapsWith (.Call (.Attribute o m apos) [] [] cpos) none epos.line X.env = pure false := by rfl)
    (ht : eval (.Call (.Attribute o m apos) [] [] cpos) X.env = (do
      let ov ← eval o X.env
      standAt apos.atName
      let (f, first) ← holding [ov] (getMethod ov m pl)
      callWith cpos f first (backTo cpos (starEach [] X.env)) (backToKw cpos (keywordEach [] X.env))) := by rfl) :
    LS X (.Try [.Expr (.Call (.Attribute o m apos) [] [] cpos) epos] [.ExceptHandler (some (.Name x np)) none [.Return (some (.Constant (.bool true) j cp)) rp] pos'] [] [] pos) (sCaught D0 m U so) := by
  refine ⟨_, ps_try_only (c := .ref C) hs hf ⟨hg, hdb, .inl gC⟩ takes0 (tb := fun W => tDrop fun σ H Q => uE X.K so σ H fun v H1 => ∃ a dx fs, v = .ref a ∧ H1 a = some (.ins D0 dx fs) ∧ fs.lookup m = none ∧ SpU X.K C U [v] H1 Q (WE W σ)) (fun W pn xe tk hp => ?_)
    (ts := fun _ _ _ => fun D σ H => D.rt (.bl true) H) (fun a oe cls d pn _ _ => ?_), fun σ H Γ m0 E D hs hm h k => ?_⟩
  · refine pss_one (ps_expr ⟨fun pins s σ H Q I h => ?_⟩ hsw)
    obtain ⟨t, po, lo⟩ := ho pn xe
    refine PySem.W.methodCall_KW (pl := pl) (thn ((LE.u (X := X.tr pn xe) ⟨t, po, lo⟩).run pins s σ H _ I h) fun u s1 ⟨v, H1, I1, rx, a, dx, fs, ex, ea, l, q⟩ => ?_) ht
    subst ex
    obtain rfl : u = Value.ref a := rx
    refine getmeth_ok (X := X.tr pn xe) I1 ea c hm l ?_
    refine PySem.W.callWith_K0 (first := [.ref a]) I1.kIn hm.kp ?_
    exact run_fnS (X := X.tr pn xe) (E := WE W) F hr hb (passAt tk σ) I1 (.cons (show RelV (.ref a) (.ref a) from rfl) .nil) q
  · exact pss_one (ps_ret pe_bl)
  · refine ⟨Γ, m0, _, hs, hm, h, fun d m1 v H1 h1 s1 o1 i1 => ?_⟩
    obtain ⟨⟨fs, ha, hl⟩, hu, hrt⟩ := h1
    obtain ⟨a, dx, gs, rfl, e1, r1⟩ := asO_ok o1 ha i1
    refine ⟨a, dx, gs, rfl, e1, r1.no hl, [d], m1, Iss.one i1, o1, hu, fun H' st o' => ?_⟩
    exact ⟨true, hex, fun _ a' _ => k.rt (.bl true) m1 (.bl true) H' hrt (s1.trans st) o' (is_bl.mpr rfl), fun z => nomatch z⟩
end
end HB
set_option Elab.async false
set_option linter.all false
set_option maxRecDepth 100000
set_option maxHeartbeats 4000000
/-! match of a tuple against sequences of names -/
namespace HB
open PySem L2 PySem.Spec
def setJs : List (Option Nat) → List V → L2.St → L2.St
  | some j :: js, v :: vs, σ => setJs js vs (σ.set j (some v))
  | none :: js, _ :: vs, σ => setJs js vs σ
  | _, _, σ => σ
def setGs : List (Option Nat) → List D → GEnv → GEnv
  | some j :: js, d :: ds, Γ => setGs js ds (Γ.set j (some d))
  | none :: js, _ :: ds, Γ => setGs js ds Γ
  | _, _, Γ => Γ
inductive PatsAs (X : Cx) : List Pattern → List (Option Nat) → Prop where
  | nil : PatsAs X [] []
  | wild {p : Pos} {ps : List Pattern} {js : List (Option Nat)} (r : PatsAs X ps js) : PatsAs X (.MatchAs none none p :: ps) (none :: js)
  | name (i : Nat) {x : Str} {p : Pos} {ps : List Pattern} {js : List (Option Nat)} (hi : X.N[i]? = some x) (hx : Loc X.env.scope x) (hf : X.fn x = true ∨ X.env.scope.names.lookup x = some .local) (r : PatsAs X ps js) : PatsAs X (.MatchAs none (some x) p :: ps) (some i :: js)
theorem slots_setJs {K : PySem.W.Frag} {H : Hp} {m : Mem} : ∀ {js : List (Option Nat)} {ds : List D} {vs : List V} {σ : L2.St} {Γ : GEnv}, Slots K H m σ Γ → Iss K H m ds vs → Slots K H m (setJs js vs σ) (setGs js ds Γ)
  | [], ds, vs, σ, Γ, h, _ => by cases ds <;> cases vs <;> exact h
  | some j :: js, [], vs, σ, Γ, h, i => by rw [iss_nil] at i; subst i; exact h
  | none :: js, [], vs, σ, Γ, h, i => by rw [iss_nil] at i; subst i; exact h
  | some j :: js, d :: ds, vs, σ, Γ, h, i => by
    obtain ⟨v, r, rfl, i1, i2⟩ := iss_cons.mp i
    show Slots K H m (setJs js r (σ.set j (some v))) (setGs js ds (Γ.set j (some d)))
    exact slots_setJs (h.set i1) i2
  | none :: js, d :: ds, vs, σ, Γ, h, i => by
    obtain ⟨v, r, rfl, i1, i2⟩ := iss_cons.mp i
    show Slots K H m (setJs js r σ) (setGs js ds Γ)
    exact slots_setJs h i2
section
variable {X : Cx} {pins : List (Addr × Obj)} {H : Hp}
theorem match_each (hN : X.N.Nodup) {ps : List Pattern} {js : List (Option Nat)} (h : PatsAs X ps js) : ∀ {vs : List V} {us : List Value}, Vals vs us → us.length = ps.length → ∃ bs : List (Str × Value),
    (∀ (E : Value → Shared → Prop) (Q : Option (List (Str × Value)) → Shared → Prop) (s : Shared), Q (some bs) s → wpAny (model X.prog X.w) X.A (matchEach ps X.env us) Q E s) ∧
    ∀ (E : Value → Shared → Prop) (Q : Unit → Shared → Prop) (s : Shared) (σ : L2.St), Inv X pins σ H s → (∀ s', Inv X pins (setJs js vs σ) H s' → Q () s') → wpAny (model X.prog X.w) X.A (assignInOrder (bs.map fun (n, _) => bindName X.env n) (bs.map (·.2))) Q E s := by
  induction h with
  | nil =>
    intro vs us r hl
    cases r with
    | nil => exact ⟨[], fun E Q s q => wpAny_matchEach_nil q, fun E Q s σ I q => wpAny_assignInOrder_none (q s I)⟩
    | cons _ _ => cases hl
  | @wild p ps js _ ih =>
    intro vs us r hl
    cases r with
    | nil => cases hl
    | @cons v u vs us r1 r2 =>
      obtain ⟨bs, h1, h2⟩ := ih r2 (by simpa using hl)
      exact ⟨bs, fun E Q s q => wpAny_matchEach_cons (wpAny_matchPattern_Capture (h1 E _ s q)), fun E Q s σ I q => h2 E Q s σ I q⟩
  | @name i x p ps js hi hx hf _ ih =>
    intro vs us r hl
    cases r with
    | nil => cases hl
    | @cons v u vs us r1 r2 =>
      obtain ⟨bs, h1, h2⟩ := ih r2 (by simpa using hl)
      refine ⟨(x, u) :: bs, fun E Q s q => wpAny_matchEach_cons (wpAny_matchPattern_Capture (h1 E _ s q)), fun E Q s σ I q => ?_⟩
      exact wpAny_assignInOrder_more (wpAny_bindName (store_ok I hN hi hx r1 (fun s' I' => h2 E Q s' _ I' q) hf))
abbrev SCs := D → SS
/-- the clauses at a subject -/
def LCs (X : Cx) (cases : List MatchCase) (s : SCs) : Prop := ∃ t : V → TS, (∀ (first : Bool) (pins : List (Addr × Obj)) (st : Shared) (σ : L2.St) (H : Hp) (v : V) (u : Value) (E : Ends), Inv X pins σ H st → RelV v u → t v E σ H →
    wpAny (model X.prog X.w) X.A (matchCases cases X.env u first) (SP X pins E) X.xe st) ∧
  ∀ (σ : L2.St) (H : Hp) (Γ : GEnv) (m : Mem) (E : SEnds) (F : Ends) (d : D) (v : V), Slots X.K H m σ Γ → MOk X.K H m → Is X.K H m d v → s d E Γ m → KS X.K H m E F → t v F σ H
theorem lcs_nil : LCs X [] (fun _ => sNext) :=
  ⟨fun _ => tNext, fun first pins st σ H v u E I r h => wpAny_matchCases_nil ⟨σ, H, I, h⟩, fun σ H Γ m E F d v hs hm i h k => k.nx Γ m σ H h Step.refl hm hs⟩
def sCase (n : Nat) (js : List (Option Nat)) (sb : SS) (rest : SCs) : SCs := fun d E Γ m => ∃ ds, d = .tup ds ∧ ds.length ≤ 1000 ∧ (ds.length = n → sb E (setGs js ds Γ) m) ∧ (ds.length ≠ n → rest d E Γ m)
theorem lcs_case {ps : List Pattern} {js : List (Option Nat)} {pos : Pos} {body : List Stmt} {cs : List MatchCase} {sb : SS} {rest : SCs} {n : Nat} (hc : X.calm = true) (hN : X.N.Nodup) (hp : PatsAs X ps js) (hb : LSs X body sb) (hr : LCs X cs rest) (hn : ps.length = n := by rfl)
    (hstar : ps.findIdx? (·.isStar) = none := by rfl) (hwild : (ps.all fun p => p.isWildcard || (p.isStar && p.names.isEmpty)) = false := by rfl) : LCs X (⟨.MatchSequence ps pos, none, body⟩ :: cs) (sCase n js sb rest) := by
  obtain ⟨tb, pb, lb⟩ := hb
  obtain ⟨tr, pr, lr⟩ := hr
  refine ⟨fun v D σ H => ∃ a vs, v = .ref a ∧ SqT X.K H a vs ∧ vs.length ≤ 1000 ∧ (vs.length = n → tb D (setJs js vs σ) H) ∧ (vs.length ≠ n → tr v D σ H), fun first pins st σ H v u E I r h => ?_, fun σ H Γ m E F d v hs hm i h k => ?_⟩
  · obtain ⟨a, vs, rfl, hq, hz, h1, h2⟩ := h
    obtain rfl : u = Value.ref a := r
    obtain ⟨its, rv, pt, hsz⟩ := I.tuple hq
    have hl := rv.length
    have hfit : (its.toArray.size : Int) < 2 ^ 63 := by rw [List.size_toArray]; omega
    refine wpAny_matchCases_cons ?_
    by_cases hn' : vs.length = n
    · refine PyProof.Rows.matchSeq_tuple_hit (items := its.toArray) pt hfit (by rw [List.size_toArray]; omega) ?_ hstar hwild
      have hpl : ps.length = its.toArray.size := by rw [List.size_toArray]; omega
      rw [hpl]
      refine PyProof.Rows.unpackItems_tuple (I.ok.hd hc) pt fun h' hx => ?_
      have I1 : Inv X pins σ H { st with heap := h', toks := st.toks + 1 + 1 } := I.kept fun b o e => hx b o (Nat.ne_of_lt (Heap.lt_size e)) e
      obtain ⟨bs, e1, e2⟩ := match_each (pins := pins) (H := H) hN hp rv (by omega)
      have e1' := e1 X.xe
      rw [List.toList_toArray] at *
      refine e1' _ _ ?_
      exact e2 X.xe _ _ σ I1 fun s' I2 => pb.run pins s' _ H E I2 (h1 hn')
    · refine PyProof.Rows.matchSeq_tuple_miss (items := its.toArray) pt hfit (by rw [List.size_toArray]; omega) ?_ hstar hwild
      exact pr false pins _ σ H (.ref a) (.ref a) E (I.tok _) (show RelV (.ref a) (.ref a) from rfl) (h2 hn')
  · obtain ⟨ds, rfl, hz, h1, h2⟩ := h
    obtain ⟨a, vs, rfl, ha, iv⟩ := is_tup.mp i
    have hl := iv.length
    exact ⟨a, vs, rfl, ha.sq, by omega, fun e => lb _ H _ m E F (slots_setJs hs iv) hm (h1 (by omega)) k, fun e => lr σ H Γ m E F _ _ hs hm i (h2 (by omega)) k⟩
def sMatch (so : SE) (s : SCs) : SS := fun E Γ m => so Γ m fun d m1 => s d E Γ m1
theorem ls_match {o : Expr} {so : SE} {cases : List MatchCase} {s : SCs} {pos : Pos} (ho : LE X o so) (hc : LCs X cases s) : LS X (.Match o cases pos) (sMatch so s) := by
  obtain ⟨t, pt, l⟩ := ho
  obtain ⟨tc, pc, lc⟩ := hc
  refine ⟨fun D σ H => t σ H fun v H1 => tc v D σ H1, ⟨fun pins s σ H D I h => ?_⟩, fun σ H Γ m E F hs hm h k => l σ H Γ m _ _ hs hm h fun d m1 v H1 h1 s1 o1 i1 => lc σ H1 Γ m1 E F d v (hs.step s1) o1 i1 h1 (k.step s1)⟩
  refine wpAny_Match (thn (pt.run pins s σ H _ I h) fun u s1 ⟨v, H1, I1, r1, q1⟩ => ?_)
  exact pc true pins s1 σ H1 v u D I1 r1 q1
end
end HB
set_option Elab.async false
set_option linter.all false
set_option maxRecDepth 100000
set_option maxHeartbeats 4000000
/-! per def: its reading, and that the text has it (printed by gen.py) -/
namespace HB
open PySem L2
/-- where the top's names stand: the module's, the classes' -/
structure Ad where
  g : Str → Addr
  m : Str → Str → Addr
def GClaim (a : Ad) (C : Addr) : Prop := C = a.g "Claim" ∨ C = a.g "Knew" ∨ C = a.g "Told" ∨ C = a.g "Began" ∨ C = a.g "Held" ∨ C = a.g "Turned"
def GClause (a : Ad) (C : Addr) : Prop := C = a.g "Clause"
def GBook (a : Ad) (C : Addr) : Prop := C = a.g "Book"
def GOr1 (a : Ad) (C D : Addr) : Prop := GClaim a C ∧ GClaim a D
def GOr2 (a : Ad) (C D : Addr) : Prop := GClause a C ∧ GClaim a D
/-- b: the right one's class stands strictly below the left one's -/
def GEq (a : Ad) (C D : Addr) (b : Bool) : Prop := GClaim a C ∧ GClaim a D ∧ ((b = true ∧ C = a.g "Claim" ∧ D ≠ C) ∨ (b = false ∧ (D = C ∨ (C ≠ a.g "Claim"))))
def formsD : List (Str × D) := [("knew", .tup [.str "name", .str "number", .str "any"]), ("told", .tup [.str "any", .str "any", .str "number", .str "end"]), ("began", .tup [.str "name", .str "any"]), ("held", .tup [.str "number"]), ("turned", .tup [.str "name", .str "any", .str "any"])]
structure Tx (P : Program) (w : World) (K : PySem.W.Frag) (mg : Str → Option Value) (a : Ad) : Prop where
  f_len : mg "len" = none
  gi_MOST_SIGNS : ∃ t, mg "MOST_SIGNS" = some (.int 8 t)
  g_RESERVED : mg "RESERVED" = some (.ref (a.g "RESERVED"))
  i_RESERVED : ∀ H m, Is K H m (.tup [.str "any", .str "end", .str "none", .str "not", .str "or"]) (.ref (a.g "RESERVED"))
  gs_LETTERS : ∃ t, mg "LETTERS" = some (.str "abcdefghijklmnopqrstuvwxyz" t)
  gs_DIGITS : ∃ t, mg "DIGITS" = some (.str "0123456789" t)
  g_is_name : mg "is_name" = some (.ref (a.g "is_name"))
  k_is_name : PySem.W.keepIn K (.ref (a.g "is_name")) = true
  gi_MOST_DIGITS : ∃ t, mg "MOST_DIGITS" = some (.int 4 t)
  f_int : mg "int" = none
  f_enumerate : mg "enumerate" = none
  f_str : mg "str" = none
  a_words : ∀ C, GClaim a C → Cls K C ∧ NoAttr K C "words"
  a_positive : ∀ C, GClaim a C → Cls K C ∧ NoAttr K C "positive"
  mk_Claim : Mk K (a.g "Claim") (a.m "Claim" "__init__")
  g_Claim : mg "Claim" = some (.ref (a.g "Claim"))
  f_isinstance : mg "isinstance" = none
  mk_Clause : Mk K (a.g "Clause") (a.m "Clause" "__init__")
  g_Clause : mg "Clause" = some (.ref (a.g "Clause"))
  g_claim_text : mg "claim_text" = some (.ref (a.g "claim_text"))
  k_claim_text : PySem.W.keepIn K (.ref (a.g "claim_text")) = true
  f_list : mg "list" = none
  a__claims : ∀ C, GClause a C → Cls K C ∧ NoAttr K C "_claims"
  own_str_Claim : ∀ C, GClaim a C → OwnM K C "__str__" (a.m "Claim" "__str__")
  c_Clause : Cls K (a.g "Clause")
  m_Clause_claims : Meth K (a.g "Clause") "claims" (a.m "Clause" "claims")
  g_number_of : mg "number_of" = some (.ref (a.g "number_of"))
  k_number_of : PySem.W.keepIn K (.ref (a.g "number_of")) = true
  forms : KForms K w (a.g "FORMS") formsD
  g_FORMS : mg "FORMS" = some (.ref (a.g "FORMS"))
  f_zip : mg "zip" = none
  g_read_word : mg "read_word" = some (.ref (a.g "read_word"))
  k_read_word : PySem.W.keepIn K (.ref (a.g "read_word")) = true
  f_tuple : mg "tuple" = none
  g_parse_claim : mg "parse_claim" = some (.ref (a.g "parse_claim"))
  k_parse_claim : PySem.W.keepIn K (.ref (a.g "parse_claim")) = true
  g_KINDS : mg "KINDS" = some (.ref (a.g "KINDS"))
  i_KINDS : ∀ H m, Is K H m (.tup [.str "begins", .str "held", .str "turns", .str "tellers"]) (.ref (a.g "KINDS"))
  g_parse_clause : mg "parse_clause" = some (.ref (a.g "parse_clause"))
  k_parse_clause : PySem.W.keepIn K (.ref (a.g "parse_clause")) = true
  g_read_limit : mg "read_limit" = some (.ref (a.g "read_limit"))
  k_read_limit : PySem.W.keepIn K (.ref (a.g "read_limit")) = true
  c_Book : Cls K (a.g "Book")
  m_Book_people : Meth K (a.g "Book") "people" (a.m "Book" "people")
  g_check_known : mg "check_known" = some (.ref (a.g "check_known"))
  k_check_known : PySem.W.keepIn K (.ref (a.g "check_known")) = true
  a_last_day : ∀ C, GBook a C → Cls K C ∧ NoAttr K C "last_day"
  g_check_told : mg "check_told" = some (.ref (a.g "check_told"))
  k_check_told : PySem.W.keepIn K (.ref (a.g "check_told")) = true
  m_Book_meetings : Meth K (a.g "Book") "meetings" (a.m "Book" "meetings")
  m_Book_versions : Meth K (a.g "Book") "versions" (a.m "Book" "versions")
  g_check_claim : mg "check_claim" = some (.ref (a.g "check_claim"))
  k_check_claim : PySem.W.keepIn K (.ref (a.g "check_claim")) = true
  g_check_names : mg "check_names" = some (.ref (a.g "check_names"))
  k_check_names : PySem.W.keepIn K (.ref (a.g "check_names")) = true
  g_Book : mg "Book" = some (.ref (a.g "Book"))
  cv_MOST_PEOPLE : ∃ mc u, ClX.CRead K (a.g "Book") mc ∧ ClX.CVal K (a.g "Book") mc "MOST_PEOPLE" (.int 8) u
  cv_MOST_VERSIONS : ∃ mc u, ClX.CRead K (a.g "Book") mc ∧ ClX.CVal K (a.g "Book") mc "MOST_VERSIONS" (.int 3) u
  cv_LAST_DAY : ∃ mc u, ClX.CRead K (a.g "Book") mc ∧ ClX.CVal K (a.g "Book") mc "LAST_DAY" (.int 30) u
  a__people : ∀ C, GBook a C → Cls K C ∧ NoAttr K C "_people"
  a__versions : ∀ C, GBook a C → Cls K C ∧ NoAttr K C "_versions"
  a__meetings : ∀ C, GBook a C → Cls K C ∧ NoAttr K C "_meetings"
  a__turns : ∀ C, GBook a C → Cls K C ∧ NoAttr K C "_turns"
  a__facts : ∀ C, GBook a C → Cls K C ∧ NoAttr K C "_facts"
  a__limits : ∀ C, GBook a C → Cls K C ∧ NoAttr K C "_limits"
  a__past : ∀ C, GBook a C → Cls K C ∧ NoAttr K C "_past"
  g_read_names : mg "read_names" = some (.ref (a.g "read_names"))
  k_read_names : PySem.W.keepIn K (.ref (a.g "read_names")) = true
  g_read_last : mg "read_last" = some (.ref (a.g "read_last"))
  k_read_last : PySem.W.keepIn K (.ref (a.g "read_last")) = true
  g_names_refused : mg "names_refused" = some (.ref (a.g "names_refused"))
  k_names_refused : PySem.W.keepIn K (.ref (a.g "names_refused")) = true
  mk_Book : Mk K (a.g "Book") (a.m "Book" "__init__")
  m_Book__do : Meth K (a.g "Book") "_do" (a.m "Book" "_do")
  g_read_line : mg "read_line" = some (.ref (a.g "read_line"))
  k_read_line : PySem.W.keepIn K (.ref (a.g "read_line")) = true
  eqo : ∀ C D b, GEq a C D b → OwnM K C "__eq__" (a.m "Claim" "__eq__") ∧ OwnM K D "__eq__" (a.m "Claim" "__eq__") ∧ (b = true → (Value.ref C != Value.ref D) = true ∧ PySem.W.subIn K (.ref D) (.ref C) = some true) ∧ (b = false → PySem.W.notFirst K C (.ref D) = true)
  cv_MOST_MEETINGS : ∃ mc u, ClX.CRead K (a.g "Book") mc ∧ ClX.CVal K (a.g "Book") mc "MOST_MEETINGS" (.int 24) u
  cv_MOST_UNSURE : ∃ mc u, ClX.CRead K (a.g "Book") mc ∧ ClX.CVal K (a.g "Book") mc "MOST_UNSURE" (.int 6) u
  m_Book__keep : Meth K (a.g "Book") "_keep" (a.m "Book" "_keep")
  cv_MOST_TURNS : ∃ mc u, ClX.CRead K (a.g "Book") mc ∧ ClX.CVal K (a.g "Book") mc "MOST_TURNS" (.int 6) u
  g_joined : mg "joined" = some (.ref (a.g "joined"))
  k_joined : PySem.W.keepIn K (.ref (a.g "joined")) = true
  cv_MOST_CLAIMS : ∃ mc u, ClX.CRead K (a.g "Book") mc ∧ ClX.CVal K (a.g "Book") mc "MOST_CLAIMS" (.int 3) u
  g_check_claims : mg "check_claims" = some (.ref (a.g "check_claims"))
  k_check_claims : PySem.W.keepIn K (.ref (a.g "check_claims")) = true
  cv_MOST_FACTS : ∃ mc u, ClX.CRead K (a.g "Book") mc ∧ ClX.CVal K (a.g "Book") mc "MOST_FACTS" (.int 16) u
  own_len_Clause : ∀ C, GClause a C → OwnM K C "__len__" (a.m "Clause" "__len__")
  cv_MOST_WIDE : ∃ mc u, ClX.CRead K (a.g "Book") mc ∧ ClX.CVal K (a.g "Book") mc "MOST_WIDE" (.int 4) u
  gi_MOST_LIMIT : ∃ t, mg "MOST_LIMIT" = some (.int 24 t)
  ki_obj : ∃ ob, K.lookup (a.g "KINDS") = some ob ∧ ob.cls = .type "tuple" ∧ ob.dict = none
  ki_tup : KTup K (a.g "KINDS") ((["begins", "held", "turns", "tellers"] : List Str).map V.str)
  own_str_Clause : ∀ C, GClause a C → OwnM K C "__str__" (a.m "Clause" "__str__")
  g_limit_line : mg "limit_line" = some (.ref (a.g "limit_line"))
  k_limit_line : PySem.W.keepIn K (.ref (a.g "limit_line")) = true
  m_Book_meet : Meth K (a.g "Book") "meet" (a.m "Book" "meet")
  m_Book_may_turn : Meth K (a.g "Book") "may_turn" (a.m "Book" "may_turn")
  m_Book_change : Meth K (a.g "Book") "change" (a.m "Book" "change")
  m_Book_fact : Meth K (a.g "Book") "fact" (a.m "Book" "fact")
  f_bool : mg "bool" = none
  f_abs : mg "abs" = none
  g__law_take : mg "_law_take" = some (.ref (a.g "_law_take"))
  k__law_take : PySem.W.keepIn K (.ref (a.g "_law_take")) = true
  f_range : mg "range" = none
  g__law_pair_met : mg "_law_pair_met" = some (.ref (a.g "_law_pair_met"))
  k__law_pair_met : PySem.W.keepIn K (.ref (a.g "_law_pair_met")) = true
  g__law_unsure : mg "_law_unsure" = some (.ref (a.g "_law_unsure"))
  k__law_unsure : PySem.W.keepIn K (.ref (a.g "_law_unsure")) = true
  g__law_claim_row : mg "_law_claim_row" = some (.ref (a.g "_law_claim_row"))
  k__law_claim_row : PySem.W.keepIn K (.ref (a.g "_law_claim_row")) = true
  g__law_names : mg "_law_names" = some (.ref (a.g "_law_names"))
  k__law_names : PySem.W.keepIn K (.ref (a.g "_law_names")) = true
  g__law_meetings : mg "_law_meetings" = some (.ref (a.g "_law_meetings"))
  k__law_meetings : PySem.W.keepIn K (.ref (a.g "_law_meetings")) = true
  g__law_changes : mg "_law_changes" = some (.ref (a.g "_law_changes"))
  k__law_changes : PySem.W.keepIn K (.ref (a.g "_law_changes")) = true
  g__law_facts : mg "_law_facts" = some (.ref (a.g "_law_facts"))
  k__law_facts : PySem.W.keepIn K (.ref (a.g "_law_facts")) = true
  g__law_made : mg "_law_made" = some (.ref (a.g "_law_made"))
  k__law_made : PySem.W.keepIn K (.ref (a.g "_law_made")) = true
  g__law_bool : mg "_law_bool" = some (.ref (a.g "_law_bool"))
  k__law_bool : PySem.W.keepIn K (.ref (a.g "_law_bool")) = true
  f_repr : mg "repr" = none
  mk_Knew : Mk K (a.g "Knew") (a.m "Knew" "__init__")
  g_Knew : mg "Knew" = some (.ref (a.g "Knew"))
  mk_Told : Mk K (a.g "Told") (a.m "Told" "__init__")
  g_Told : mg "Told" = some (.ref (a.g "Told"))
  mk_Began : Mk K (a.g "Began") (a.m "Began" "__init__")
  g_Began : mg "Began" = some (.ref (a.g "Began"))
  mk_Held : Mk K (a.g "Held") (a.m "Held" "__init__")
  g_Held : mg "Held" = some (.ref (a.g "Held"))
  mk_Turned : Mk K (a.g "Turned") (a.m "Turned" "__init__")
  g_Turned : mg "Turned" = some (.ref (a.g "Turned"))
  own_invert : ∀ C, GClaim a C → OwnM K C "__invert__" (a.m "Claim" "__invert__")
  g__law_claim : mg "_law_claim" = some (.ref (a.g "_law_claim"))
  k__law_claim : PySem.W.keepIn K (.ref (a.g "_law_claim")) = true
  or1 : ∀ C D, GOr1 a C D → ∃ f, OrC K C (a.m "Claim" "__or__") ∧ OrC K D f ∧ OrP K C D
  or2 : ∀ C D, GOr2 a C D → ∃ f, OrC K C (a.m "Clause" "__or__") ∧ OrC K D f ∧ OrP K C D
  g__law_clause : mg "_law_clause" = some (.ref (a.g "_law_clause"))
  k__law_clause : PySem.W.keepIn K (.ref (a.g "_law_clause")) = true
  g__law_text : mg "_law_text" = some (.ref (a.g "_law_text"))
  k__law_text : PySem.W.keepIn K (.ref (a.g "_law_text")) = true
  g__law_same : mg "_law_same" = some (.ref (a.g "_law_same"))
  k__law_same : PySem.W.keepIn K (.ref (a.g "_law_same")) = true
  own_contains : ∀ C, GBook a C → OwnM K C "__contains__" (a.m "Book" "__contains__")
  m_Book_turns : Meth K (a.g "Book") "turns" (a.m "Book" "turns")
  m_Book_limits : Meth K (a.g "Book") "limits" (a.m "Book" "limits")
  prop_begin : ∃ q, PropOf K (a.g "Book") "begin_limit" q (a.m "Book" "begin_limit")
  own_len_Book : ∀ C, GBook a C → OwnM K C "__len__" (a.m "Book" "__len__")
  m_Book_facts : Meth K (a.g "Book") "facts" (a.m "Book" "facts")
  m_Book_text : Meth K (a.g "Book") "text" (a.m "Book" "text")
  g__law_lines : mg "_law_lines" = some (.ref (a.g "_law_lines"))
  k__law_lines : PySem.W.keepIn K (.ref (a.g "_law_lines")) = true
  g__law_within : mg "_law_within" = some (.ref (a.g "_law_within"))
  k__law_within : PySem.W.keepIn K (.ref (a.g "_law_within")) = true
  g__law_fact_shows : mg "_law_fact_shows" = some (.ref (a.g "_law_fact_shows"))
  k__law_fact_shows : PySem.W.keepIn K (.ref (a.g "_law_fact_shows")) = true
  m_Book_undo : Meth K (a.g "Book") "undo" (a.m "Book" "undo")
  g_NothingToUndo : mg "NothingToUndo" = some (.ref (a.g "NothingToUndo"))
  exm_nothing : PySem.W.exmOne K (.ref (a.g "NothingToUndo")) (.ref (a.g "NothingToUndo")) = some true
  g__law_box : mg "_law_box" = some (.ref (a.g "_law_box"))
  k__law_box : PySem.W.keepIn K (.ref (a.g "_law_box")) = true
  g__law_world : mg "_law_world" = some (.ref (a.g "_law_world"))
  k__law_world : PySem.W.keepIn K (.ref (a.g "_law_world")) = true
  g__law_limits : mg "_law_limits" = some (.ref (a.g "_law_limits"))
  k__law_limits : PySem.W.keepIn K (.ref (a.g "_law_limits")) = true
  cm_read : ∃ mc q, ClX.CRead K (a.g "Book") mc ∧ ClX.CMet K (a.g "Book") mc "read" q (a.m "Book" "read")
  g__law_shows : mg "_law_shows" = some (.ref (a.g "_law_shows"))
  k__law_shows : PySem.W.keepIn K (.ref (a.g "_law_shows")) = true
  g__law_nothing : mg "_law_nothing" = some (.ref (a.g "_law_nothing"))
  k__law_nothing : PySem.W.keepIn K (.ref (a.g "_law_nothing")) = true
  g__law_build : mg "_law_build" = some (.ref (a.g "_law_build"))
  k__law_build : PySem.W.keepIn K (.ref (a.g "_law_build")) = true
  f_super : mg "super" = none
theorem Room.u1 {k : Nat} {A : Around} (h : Room k A) : A.units + 1 < cLine := by have := h.un; omega
theorem Room.u64 {k : Nat} {A : Around} (h : Room k A) : A.units + 64 < cLine := by have := h.un; omega
theorem Room.u65 {k : Nat} {A : Around} (h : Room k A) : A.units + 65 < cLine := by have := h.un; omega
theorem bt_len : bootBuiltins "len" = some (.builtin "len") := by decide +kernel
theorem bt_abs : bootBuiltins "abs" = some (.builtin "abs") := by decide +kernel
theorem bt_repr : bootBuiltins "repr" = some (.builtin "repr") := by decide +kernel
theorem bt_isinstance : bootBuiltins "isinstance" = some (.builtin "isinstance") := by decide +kernel
theorem bt_int : bootBuiltins "int" = some (.type "int") := by decide +kernel
theorem bt_str : bootBuiltins "str" = some (.type "str") := by decide +kernel
theorem bt_list : bootBuiltins "list" = some (.type "list") := by decide +kernel
theorem bt_tuple : bootBuiltins "tuple" = some (.type "tuple") := by decide +kernel
theorem bt_bool : bootBuiltins "bool" = some (.type "bool") := by decide +kernel
section
variable {X : Cx}
theorem le_cvalI {o : Expr} {f : Str} {pos : Pos} {so : SE} {C : Addr} {i : Int} (h : ∃ mc u, ClX.CRead X.K C mc ∧ ClX.CVal X.K C mc f (.int i) u) (ho : LE X o so) (hb : attributeBase o f X.env (eval o X.env) = eval o X.env := by rfl) : LE X (.Attribute o f pos) (sCVal C (.int i) so) := by
  obtain ⟨mc, u, r, k⟩ := h
  exact le_cval r k (fun _ _ => is_int.mpr rfl) ho hb
theorem le_propI {o : Expr} {f : Str} {pos : Pos} {so : SE} {C g : Addr} {k : Nat} {T : PT1} (ho : LE X o so) (c : Cls X.K C) (hp : ∃ q, PropOf X.K C f q g) (F : FnQ false X.prog X.w X.K X.mg X.base k g T) (hr : Room (k + 1) X.A)
    (hab : attributeBase o f X.env (eval o X.env) = eval o X.env := by rfl) : LE X (.Attribute o f pos) (sProp C T so) := by
  obtain ⟨q, h⟩ := hp
  exact le_prop ho c h F hr hab
/-- one rule or another -/
def rhoU (ρ ρ' : Rho) : Rho := fun x y m P => ρ x y m P ∨ ρ' x y m P
theorem lo_union {f : Value → Value → Sem Value} {ρ ρ' : Rho} (h : LOp X f ρ) (h' : LOp X f ρ') : LOp X f (rhoU ρ ρ') := by
  obtain ⟨r, o, l⟩ := h
  obtain ⟨r', o', l'⟩ := h'
  refine ⟨fun x y H Q => r x y H Q ∨ r' x y H Q, fun pins s σ H x y u v Q I rx ry h => ?_, fun x y dx dy H m P Q hm ix iy h hq => ?_⟩
  · rcases h with h | h
    · exact o pins s σ H x y u v Q I rx ry h
    · exact o' pins s σ H x y u v Q I rx ry h
  · rcases h with h | h
    · exact .inl (l x y dx dy H m P Q hm ix iy h hq)
    · exact .inr (l' x y dx dy H m P Q hm ix iy h hq)
end
theorem blkok_by {N : List Str} {sc scope : Scope} {own : List (Str × Nat)} (hk : scope.kind = .function)
    (h : ((∀ y ∈ scope.names, scope.names.lookup y.1 = some y.2) ∧ (∀ p ∈ own, N[p.2]? = some p.1) ∧ (∀ y ∈ scope.names, y.2 = .free → sc.names.lookup y.1 = some .cell ∨ sc.names.lookup y.1 = some .free) ∧ (∀ y ∈ scope.names, y.2 = .local ∨ y.2 = .cell → y.1 ∈ own.map (·.1) ∨ y.1 ∉ N))) : BlkOk N sc scope own :=
  ⟨hk, h.1, h.2.1, h.2.2.1, h.2.2.2⟩
theorem pts_lt {X : Cx} {e : Expr} {s : ST} (h : LT X e s) : PTs X [e] (uT X.K s) := pts_one h.u
abbrev N_is_name : List Str := ["text", "sign"]
theorem sc_is_name : FnScope N_is_name ["text"] (defScope (top 19)) := ⟨rfl, rfl, rfl, by decide +kernel, rfl, by decide +kernel, by decide +kernel⟩
def s_is_name (K : PySem.W.Frag) (a : Ad) : SS := sSeq (sIf (sOr (sTest (sBin (rhoEq false) (sVar 0) (sC (.str "")))) (sOr (sTest (sBin rhoGt (sBlt rhoLen (aCons (sVar 0) (aNil))) (sC (.int 8)))) (sTest (sBin (rhoIn false) (sVar 0) (sC (.tup [.str "any", .str "end", .str "none", .str "not", .str "or"])))))) (sRet (sC (.bl false))) (sNext)) (sSeq (sIf (sTest (sBin (rhoIn true) (sBin rhoIx (sVar 0) (sC (.int 0))) (sC (.str "abcdefghijklmnopqrstuvwxyz")))) (sRet (sC (.bl false))) (sNext)) (sSeq (sFor (iStrD (sVar 0)) (gN 1) (sIf (sAnd (sTest (sBin (rhoIn true) (sVar 1) (sC (.str "abcdefghijklmnopqrstuvwxyz")))) (sTest (sBin (rhoIn true) (sVar 1) (sC (.str "0123456789"))))) (sRet (sC (.bl false))) (sNext))) (sRet (sC (.bl true)))))
theorem b_is_name {P : Program} {w : World} {K : PySem.W.Frag} {mg : Str → Option Value} {base : Heap} {a : Ad} (Z : Tx P w K mg a)  : Body false P w K mg base 1 N_is_name "is_name" (defScope (top 19)) (a.g "is_name") (defBody (top 19)) (s_is_name K a) := by
  intro cdv A outer st H E hr hg
  exact (lss_cons (ls_if (lw_pt (lw_or (lt_cmp (lo_eq (Room.u64 hr)) (lv 0) le_str) (lw_or (lt_cmp lo_gt (le_blt lc_len Z.f_len bt_len (la_cons (lv 0) la_nil)) (le_gint Z.gi_MOST_SIGNS)) (lw_or1 (lt_cmp (lo_in (Room.u65 hr)) (lv 0) (le_gtup Z.g_RESERVED Z.i_RESERVED)))))) (lss_one (ls_ret le_bl)) lss_nil) (lss_cons (ls_if (lt_cmp (lo_notin (Room.u65 hr)) (le_ix (lv 0) le_int) (le_gstr Z.gs_LETTERS)) (lss_one (ls_ret le_bl)) lss_nil) (lss_cons (ls_for PySem.PassesOwn.never rfl (li_str (lv 0)) (lg_name 1 sc_is_name.nd) (lss_one (ls_if (lw_pt (lw_and (lt_cmp (lo_notin (Room.u65 hr)) (lv 1) (le_gstr Z.gs_LETTERS)) (lw_and1 (lt_cmp (lo_notin (Room.u65 hr)) (lv 1) (le_gstr Z.gs_DIGITS))))) (lss_one (ls_ret le_bl)) lss_nil))) (lss_one (ls_ret le_bl)))))
abbrev N_check_names : List Str := ["names", "most", "seen", "name"]
theorem sc_check_names : FnScope N_check_names ["names", "most"] (defScope (top 20)) := ⟨rfl, rfl, rfl, by decide +kernel, rfl, by decide +kernel, by decide +kernel⟩
def s_check_names (K : PySem.W.Frag) (a : Ad) (T_is_name : PT1) : SS := sSeq (sIf (sNot (sTest (sChain rhoLe rhoLe (sC (.int 1)) (sBlt rhoLen (aCons (sVar 0) (aNil))) (sVar 1)))) (sNever) (sNext)) (sSeq (sSet 2 (sLstM (aNil))) (sFor (iLst (sVar 0)) (gN 3) (sSeq (sIf (sNot (sTest (sCall T_is_name (aCons (sVar 3) (aNil))))) (sNever) (sNext)) (sSeq (sIf (sTest (sBin (rhoIn false) (sVar 3) (sVar 2))) (sNever) (sNext)) (sDrop (sBM isLstM rhoApp (sVar 2) (aCons (sVar 3) (aNil))))))))
theorem b_check_names {P : Program} {w : World} {K : PySem.W.Frag} {mg : Str → Option Value} {base : Heap} {a : Ad} {T_is_name : PT1} (Z : Tx P w K mg a) (F_is_name : FnQ false P w K mg base 2 (a.g "is_name") T_is_name) : Body false P w K mg base 2 N_check_names "check_names" (defScope (top 20)) (a.g "check_names") (defBody (top 20)) (s_check_names K a T_is_name) := by
  intro cdv A outer st H E hr hg
  exact (lss_cons (ls_if (lt_not (lt_chain lo_le lo_le le_int (le_blt lc_len Z.f_len bt_len (la_cons (lv 0) la_nil)) (lv 1))) (lss_one ls_never) lss_nil) (lss_cons (ls_set 2 sc_check_names.nd (le_lstM la_nil)) (lss_one (ls_for PySem.PassesOwn.never rfl (li_list (lv 0)) (lg_name 3 sc_check_names.nd) (lss_cons (ls_if (lt_not (lt_val (le_call F_is_name (hr.mono (by decide)) Z.g_is_name Z.k_is_name (la_cons (lv 3) la_nil)))) (lss_one ls_never) lss_nil) (lss_cons (ls_if (lt_cmp (lo_in (Room.u65 hr)) (lv 3) (lv 2)) (lss_one ls_never) lss_nil) (lss_one (ls_expr (le_append (lv 2) (la_cons (lv 3) la_nil))))))))))
abbrev N_number_of : List Str := ["word", "sign"]
theorem sc_number_of : FnScope N_number_of ["word"] (defScope (top 21)) := ⟨rfl, rfl, rfl, by decide +kernel, rfl, by decide +kernel, by decide +kernel⟩
def s_number_of (K : PySem.W.Frag) (a : Ad) : SS := sSeq (sIf (sOr (sTest (sBin (rhoEq false) (sVar 0) (sC (.str "")))) (sTest (sBin rhoGt (sBlt rhoLen (aCons (sVar 0) (aNil))) (sC (.int 4))))) (sRet (sC .non)) (sNext)) (sSeq (sFor (iStrD (sVar 0)) (gN 1) (sIf (sTest (sBin (rhoIn true) (sVar 1) (sC (.str "0123456789")))) (sRet (sC .non)) (sNext))) (sSeq (sIf (sAnd (sTest (sBin (rhoEq false) (sBin rhoIx (sVar 0) (sC (.int 0))) (sC (.str "0")))) (sTest (sBin rhoGt (sBlt rhoLen (aCons (sVar 0) (aNil))) (sC (.int 1))))) (sRet (sC .non)) (sNext)) (sRet (sBlt rhoInt (aCons (sVar 0) (aNil))))))
theorem b_number_of {P : Program} {w : World} {K : PySem.W.Frag} {mg : Str → Option Value} {base : Heap} {a : Ad} (Z : Tx P w K mg a)  : Body false P w K mg base 1 N_number_of "number_of" (defScope (top 21)) (a.g "number_of") (defBody (top 21)) (s_number_of K a) := by
  intro cdv A outer st H E hr hg
  exact (lss_cons (ls_if (lw_pt (lw_or (lt_cmp (lo_eq (Room.u64 hr)) (lv 0) le_str) (lw_or1 (lt_cmp lo_gt (le_blt lc_len Z.f_len bt_len (la_cons (lv 0) la_nil)) (le_gint Z.gi_MOST_DIGITS))))) (lss_one (ls_ret le_non)) lss_nil) (lss_cons (ls_for PySem.PassesOwn.never rfl (li_str (lv 0)) (lg_name 1 sc_number_of.nd) (lss_one (ls_if (lt_cmp (lo_notin (Room.u65 hr)) (lv 1) (le_gstr Z.gs_DIGITS)) (lss_one (ls_ret le_non)) lss_nil))) (lss_cons (ls_if (lw_pt (lw_and (lt_cmp (lo_eq (Room.u64 hr)) (le_ix (lv 0) le_int) le_str) (lw_and1 (lt_cmp lo_gt (le_blt lc_len Z.f_len bt_len (la_cons (lv 0) la_nil)) le_int)))) (lss_one (ls_ret le_non)) lss_nil) (lss_one (ls_ret (le_bltT lc_int Z.f_int bt_int (la_cons (lv 0) la_nil)))))))
abbrev N_claim_text : List Str := ["words", "positive", "parts", "at", "word"]
theorem sc_claim_text : FnScope N_claim_text ["words", "positive"] (defScope (top 24)) := ⟨rfl, rfl, rfl, by decide +kernel, rfl, by decide +kernel, by decide +kernel⟩
def s_claim_text (K : PySem.W.Frag) (a : Ad) : SS := sSeq (sSet 2 (sLstM (aNil))) (sSeq (sIf (sNot (sTest (sVar 1))) (sDrop (sBM isLstM rhoApp (sVar 2) (aCons (sC (.str "not")) (aNil)))) (sNext)) (sSeq (sFor (iEnumT (aCons (sVar 0) (aNil))) (gTuple 2 (gsCons (gN 3) (gsCons (gN 4) (gsNil)))) (sIf (sAnd (sTest (sBin (rhoIsN false) (sVar 4) (sC .non))) (sAnd (sTest (sBin (rhoEq false) (sBin rhoIx (sVar 0) (sC (.int 0))) (sC (.str "told")))) (sTest (sBin (rhoEq false) (sVar 3) (sC (.int 4)))))) (sDrop (sBM isLstM rhoApp (sVar 2) (aCons (sC (.str "end")) (aNil)))) (sIf (sTest (sBin (rhoIsN false) (sVar 4) (sC .non))) (sDrop (sBM isLstM rhoApp (sVar 2) (aCons (sC (.str "any")) (aNil)))) (sDrop (sBM isLstM rhoApp (sVar 2) (aCons (sBlt rhoStr (aCons (sVar 4) (aNil))) (aNil))))))) (sRet (sBM isStrD rhoJoin (sC (.str " ")) (aCons (sVar 2) (aNil))))))
theorem b_claim_text {P : Program} {w : World} {K : PySem.W.Frag} {mg : Str → Option Value} {base : Heap} {a : Ad} (Z : Tx P w K mg a)  : Body false P w K mg base 1 N_claim_text "claim_text" (defScope (top 24)) (a.g "claim_text") (defBody (top 24)) (s_claim_text K a) := by
  intro cdv A outer st H E hr hg
  exact (lss_cons (ls_set 2 sc_claim_text.nd (le_lstM la_nil)) (lss_cons (ls_if (lt_not (lt_val (lv 1))) (lss_one (ls_expr (le_append (lv 2) (la_cons le_str la_nil)))) lss_nil) (lss_cons (ls_for PySem.PassesOwn.never rfl (li_enumT Z.f_enumerate (la_cons (lv 0) la_nil)) (lg_tup rfl (lgs_cons (lg_name 3 sc_claim_text.nd) (lgs_cons (lg_name 4 sc_claim_text.nd) lgs_nil))) (lss_one (ls_if (lw_pt (lw_and (lt_cmp lo_is (lv 4) le_non) (lw_and (lt_cmp (lo_eq (Room.u64 hr)) (le_ix (lv 0) le_int) le_str) (lw_and1 (lt_cmp (lo_eq (Room.u64 hr)) (lv 3) le_int))))) (lss_one (ls_expr (le_append (lv 2) (la_cons le_str la_nil)))) (lss_one (ls_if (lt_cmp lo_is (lv 4) le_non) (lss_one (ls_expr (le_append (lv 2) (la_cons le_str la_nil)))) (lss_one (ls_expr (le_append (lv 2) (la_cons (le_bltT lc_str Z.f_str bt_str (la_cons (lv 4) la_nil)) la_nil))))))))) (lss_one (ls_ret (le_join le_str (la_cons (lv 2) la_nil)))))))
abbrev N_Claim_init : List Str := ["self", "words", "positive"]
theorem sc_Claim_init : FnScope N_Claim_init ["self", "words", "positive"] (defScope (inClass (top 25) 0)) := ⟨rfl, rfl, rfl, by decide +kernel, rfl, by decide +kernel, by decide +kernel⟩
def s_Claim_init (K : PySem.W.Frag) (a : Ad) : SS := sSeq (sFldSet (GClaim a) "words" (sVar 0) (sVar 1)) (sFldSet (GClaim a) "positive" (sVar 0) (sVar 2))
theorem b_Claim_init {P : Program} {w : World} {K : PySem.W.Frag} {mg : Str → Option Value} {base : Heap} {a : Ad} (Z : Tx P w K mg a)  : Body false P w K mg base 1 N_Claim_init "Claim.__init__" (defScope (inClass (top 25) 0)) (a.m "Claim" "__init__") (defBody (inClass (top 25) 0)) (s_Claim_init K a) := by
  intro cdv A outer st H E hr hg
  exact (lss_cons (ls_fld Z.a_words (lv 0) (lv 1)) (lss_one (ls_fld Z.a_positive (lv 0) (lv 2))))
abbrev N_Claim_invert : List Str := ["self"]
theorem sc_Claim_invert : FnScope N_Claim_invert ["self"] (defScope (inClass (top 25) 1)) := ⟨rfl, rfl, rfl, by decide +kernel, rfl, by decide +kernel, by decide +kernel⟩
def s_Claim_invert (K : PySem.W.Frag) (a : Ad) (T_Claim_init : PT1) : SS := sRet (sMake (a.g "Claim") T_Claim_init (aCons (sFld (GClaim a) "words" (sVar 0)) (aCons (sNotV (sFld (GClaim a) "positive" (sVar 0))) (aNil))))
theorem b_Claim_invert {P : Program} {w : World} {K : PySem.W.Frag} {mg : Str → Option Value} {base : Heap} {a : Ad} {T_Claim_init : PT1} (Z : Tx P w K mg a) (F_Claim_init : FnQ false P w K mg base 2 (a.m "Claim" "__init__") T_Claim_init) : Body false P w K mg base 3 N_Claim_invert "Claim.__invert__" (defScope (inClass (top 25) 1)) (a.m "Claim" "__invert__") (defBody (inClass (top 25) 1)) (s_Claim_invert K a T_Claim_init) := by
  intro cdv A outer st H E hr hg
  exact (lss_one (ls_ret (le_make Z.mk_Claim F_Claim_init (hr.mono (by decide)) Z.g_Claim (la_cons (le_fld Z.a_words (lv 0)) (la_cons (le_not (le_fld Z.a_positive (lv 0))) la_nil)))))
abbrev N_Claim_or : List Str := ["self", "other", "rest"]
theorem sc_Claim_or : FnScope N_Claim_or ["self", "other"] (defScope (inClass (top 25) 2)) := ⟨rfl, rfl, rfl, by decide +kernel, rfl, by decide +kernel, by decide +kernel⟩
def s_Claim_or (K : PySem.W.Frag) (a : Ad) (T_Clause_init : PT1) : SS := sSeq (sIf (sTest (sBlt (rhoIsi K) (aCons (sVar 1) (aCons (sC (.ref (a.g "Claim"))) (aNil))))) (sRet (sMake (a.g "Clause") T_Clause_init (aCons (sVar 0) (aCons (sVar 1) (aNil))))) (sNext)) (sNever)
theorem b_Claim_or {P : Program} {w : World} {K : PySem.W.Frag} {mg : Str → Option Value} {base : Heap} {a : Ad} {T_Clause_init : PT1} (Z : Tx P w K mg a) (F_Clause_init : FnQ false P w K mg base 2 (a.m "Clause" "__init__") T_Clause_init) : Body false P w K mg base 3 N_Claim_or "Claim.__or__" (defScope (inClass (top 25) 2)) (a.m "Claim" "__or__") (defBody (inClass (top 25) 2)) (s_Claim_or K a T_Clause_init) := by
  intro cdv A outer st H E hr hg
  exact (lss_cons (ls_if (lt_val (le_blt lc_isi Z.f_isinstance bt_isinstance (la_cons (lv 1) (la_cons (le_gref Z.g_Claim) la_nil)))) (lss_one (ls_ret (le_make Z.mk_Clause F_Clause_init (hr.mono (by decide)) Z.g_Clause (la_cons (lv 0) (la_cons (lv 1) la_nil))))) lss_nil) lss_never)
abbrev N_Claim_eq : List Str := ["self", "other"]
theorem sc_Claim_eq : FnScope N_Claim_eq ["self", "other"] (defScope (inClass (top 25) 3)) := ⟨rfl, rfl, rfl, by decide +kernel, rfl, by decide +kernel, by decide +kernel⟩
def s_Claim_eq (K : PySem.W.Frag) (a : Ad) : SS := sRet (sAndV (sBlt (rhoIsi K) (aCons (sVar 1) (aCons (sC (.ref (a.g "Claim"))) (aNil)))) (sAndV (sBin (rhoEq false) (sFld (GClaim a) "words" (sVar 0)) (sFld (GClaim a) "words" (sVar 1))) (sBin (rhoEq false) (sFld (GClaim a) "positive" (sVar 0)) (sFld (GClaim a) "positive" (sVar 1)))))
theorem b_Claim_eq {P : Program} {w : World} {K : PySem.W.Frag} {mg : Str → Option Value} {base : Heap} {a : Ad} (Z : Tx P w K mg a)  : Body false P w K mg base 1 N_Claim_eq "Claim.__eq__" (defScope (inClass (top 25) 3)) (a.m "Claim" "__eq__") (defBody (inClass (top 25) 3)) (s_Claim_eq K a) := by
  intro cdv A outer st H E hr hg
  exact (lss_one (ls_ret (le_and (le_blt lc_isi Z.f_isinstance bt_isinstance (la_cons (lv 1) (la_cons (le_gref Z.g_Claim) la_nil))) (le_and (le_cmp (lo_eq (Room.u64 hr)) (le_fld Z.a_words (lv 0)) (le_fld Z.a_words (lv 1))) (le_one (le_cmp (lo_eq (Room.u64 hr)) (le_fld Z.a_positive (lv 0)) (le_fld Z.a_positive (lv 1))))))))
abbrev N_Claim_str : List Str := ["self"]
theorem sc_Claim_str : FnScope N_Claim_str ["self"] (defScope (inClass (top 25) 4)) := ⟨rfl, rfl, rfl, by decide +kernel, rfl, by decide +kernel, by decide +kernel⟩
def s_Claim_str (K : PySem.W.Frag) (a : Ad) (T_claim_text : PT1) : SS := sRet (sBlt rhoStr (aCons (sCall T_claim_text (aCons (sFld (GClaim a) "words" (sVar 0)) (aCons (sFld (GClaim a) "positive" (sVar 0)) (aNil)))) (aNil)))
theorem b_Claim_str {P : Program} {w : World} {K : PySem.W.Frag} {mg : Str → Option Value} {base : Heap} {a : Ad} {T_claim_text : PT1} (Z : Tx P w K mg a) (F_claim_text : FnQ false P w K mg base 2 (a.g "claim_text") T_claim_text) : Body false P w K mg base 2 N_Claim_str "Claim.__str__" (defScope (inClass (top 25) 4)) (a.m "Claim" "__str__") (defBody (inClass (top 25) 4)) (s_Claim_str K a T_claim_text) := by
  intro cdv A outer st H E hr hg
  exact (lss_one (ls_ret (le_bltT lc_str Z.f_str bt_str (la_cons (le_call F_claim_text (hr.mono (by decide)) Z.g_claim_text Z.k_claim_text (la_cons (le_fld Z.a_words (lv 0)) (la_cons (le_fld Z.a_positive (lv 0)) la_nil))) la_nil))))
abbrev N_Clause_init : List Str := ["self", "claims"]
theorem sc_Clause_init : FnScope N_Clause_init ["self", "claims"] (defScope (inClass (top 31) 0)) := ⟨rfl, rfl, rfl, by decide +kernel, rfl, by decide +kernel, by decide +kernel⟩
def s_Clause_init (K : PySem.W.Frag) (a : Ad) : SS := sFldSet (GClause a) "_claims" (sVar 0) (sBlt rhoList (aCons (sVar 1) (aNil)))
theorem b_Clause_init {P : Program} {w : World} {K : PySem.W.Frag} {mg : Str → Option Value} {base : Heap} {a : Ad} (Z : Tx P w K mg a)  : Body false P w K mg base 1 N_Clause_init "Clause.__init__" (defScope (inClass (top 31) 0)) (a.m "Clause" "__init__") (defBody (inClass (top 31) 0)) (s_Clause_init K a) := by
  intro cdv A outer st H E hr hg
  exact (lss_one (ls_fld Z.a__claims (lv 0) (le_bltT lc_list Z.f_list bt_list (la_cons (lv 1) la_nil))))
abbrev N_Clause_claims : List Str := ["self"]
theorem sc_Clause_claims : FnScope N_Clause_claims ["self"] (defScope (inClass (top 31) 1)) := ⟨rfl, rfl, rfl, by decide +kernel, rfl, by decide +kernel, by decide +kernel⟩
def s_Clause_claims (K : PySem.W.Frag) (a : Ad) : SS := sRet (sBlt rhoList (aCons (sFld (GClause a) "_claims" (sVar 0)) (aNil)))
theorem b_Clause_claims {P : Program} {w : World} {K : PySem.W.Frag} {mg : Str → Option Value} {base : Heap} {a : Ad} (Z : Tx P w K mg a)  : Body false P w K mg base 1 N_Clause_claims "Clause.claims" (defScope (inClass (top 31) 1)) (a.m "Clause" "claims") (defBody (inClass (top 31) 1)) (s_Clause_claims K a) := by
  intro cdv A outer st H E hr hg
  exact (lss_one (ls_ret (le_bltT lc_list Z.f_list bt_list (la_cons (le_fld Z.a__claims (lv 0)) la_nil))))
abbrev N_Clause_or : List Str := ["self", "other", "mine", "rest"]
theorem sc_Clause_or : FnScope N_Clause_or ["self", "other"] (defScope (inClass (top 31) 2)) := ⟨rfl, rfl, rfl, by decide +kernel, rfl, by decide +kernel, by decide +kernel⟩
def s_Clause_or (K : PySem.W.Frag) (a : Ad) (T_Clause_init : PT1) : SS := sSeq (sSet 2 (sFld (GClause a) "_claims" (sVar 0))) (sSeq (sIf (sTest (sBlt (rhoIsi K) (aCons (sVar 1) (aCons (sC (.ref (a.g "Claim"))) (aNil))))) (sRet (sMakeS (a.g "Clause") T_Clause_init (aStar (sVar 2) (aCons (sVar 1) (aNil))))) (sNext)) (sNever))
theorem b_Clause_or {P : Program} {w : World} {K : PySem.W.Frag} {mg : Str → Option Value} {base : Heap} {a : Ad} {T_Clause_init : PT1} (Z : Tx P w K mg a) (F_Clause_init : FnQ false P w K mg base 2 (a.m "Clause" "__init__") T_Clause_init) : Body false P w K mg base 3 N_Clause_or "Clause.__or__" (defScope (inClass (top 31) 2)) (a.m "Clause" "__or__") (defBody (inClass (top 31) 2)) (s_Clause_or K a T_Clause_init) := by
  intro cdv A outer st H E hr hg
  exact (lss_cons (ls_set 2 sc_Clause_or.nd (le_fld Z.a__claims (lv 0))) (lss_cons (ls_if (lt_val (le_blt lc_isi Z.f_isinstance bt_isinstance (la_cons (lv 1) (la_cons (le_gref Z.g_Claim) la_nil)))) (lss_one (ls_ret (le_makeS2 Z.mk_Clause F_Clause_init (hr.mono (by decide)) Z.g_Clause (la_star (lv 2) (la_cons (lv 1) la_nil))))) lss_nil) lss_never))
abbrev N_Clause_len : List Str := ["self"]
theorem sc_Clause_len : FnScope N_Clause_len ["self"] (defScope (inClass (top 31) 4)) := ⟨rfl, rfl, rfl, by decide +kernel, rfl, by decide +kernel, by decide +kernel⟩
def s_Clause_len (K : PySem.W.Frag) (a : Ad) : SS := sRet (sBlt rhoLen (aCons (sFld (GClause a) "_claims" (sVar 0)) (aNil)))
theorem b_Clause_len {P : Program} {w : World} {K : PySem.W.Frag} {mg : Str → Option Value} {base : Heap} {a : Ad} (Z : Tx P w K mg a)  : Body false P w K mg base 1 N_Clause_len "Clause.__len__" (defScope (inClass (top 31) 4)) (a.m "Clause" "__len__") (defBody (inClass (top 31) 4)) (s_Clause_len K a) := by
  intro cdv A outer st H E hr hg
  exact (lss_one (ls_ret (le_blt lc_len Z.f_len bt_len (la_cons (le_fld Z.a__claims (lv 0)) la_nil))))
abbrev N_Clause_str : List Str := ["self", "claim"]
theorem sc_Clause_str : FnScope N_Clause_str ["self"] (defScope (inClass (top 31) 5)) := ⟨rfl, rfl, rfl, by decide +kernel, rfl, by decide +kernel, by decide +kernel⟩
def s_Clause_str (K : PySem.W.Frag) (a : Ad) (T_Claim_str : PT1) : SS := sRet (sBM isStrD rhoJoin (sC (.str " or ")) (aCons (sLc (iLst (sFld (GClause a) "_claims" (sVar 0))) (tAll) (sBlt (rhoStrO (GClaim a) T_Claim_str) (aCons (sVar 1) (aNil))) 1) (aNil)))
theorem b_Clause_str {P : Program} {w : World} {K : PySem.W.Frag} {mg : Str → Option Value} {base : Heap} {a : Ad} {T_Claim_str : PT1} (Z : Tx P w K mg a) (F_Claim_str : FnQ false P w K mg base 3 (a.m "Claim" "__str__") T_Claim_str) : Body false P w K mg base 5 N_Clause_str "Clause.__str__" (defScope (inClass (top 31) 5)) (a.m "Clause" "__str__") (defBody (inClass (top 31) 5)) (s_Clause_str K a T_Claim_str) := by
  intro cdv A outer st H E hr hg
  exact (lss_one (ls_ret (le_join le_str (la_cons (le_lc rfl sc_Clause_str.nd (li_list (le_fld Z.a__claims (lv 0))) (blkok_by (N := N_Clause_str) (sc := defScope (inClass (top 31) 5)) rfl (by decide +kernel)) (fun s H C cl fp => pg_name sc_Clause_str.nd rfl (by first | exact Or.inl rfl | exact Or.inr rfl)) (fun s H C cl fp => pts_all) (fun s H C cl fp => (le_bltT (lc_strO Z.own_str_Claim F_Claim_str (hr.mono (by decide))) Z.f_str bt_str (la_cons (lv 1) la_nil)))) la_nil))))
abbrev N_joined : List Str := ["parts", "claims", "part"]
theorem sc_joined : FnScope N_joined ["parts"] (defScope (top 32)) := ⟨rfl, rfl, rfl, by decide +kernel, rfl, by decide +kernel, by decide +kernel⟩
def s_joined (K : PySem.W.Frag) (a : Ad) (T_Clause_claims : PT1) : SS := sSeq (sSet 1 (sLstM (aNil))) (sSeq (sFor (iTp (sVar 0)) (gN 2) (sIf (sTest (sBlt (rhoIsi K) (aCons (sVar 2) (aCons (sC (.ref (a.g "Clause"))) (aNil))))) (sDrop (sBM isLstM rhoExt (sVar 1) (aCons (sMeth (a.g "Clause") "claims" T_Clause_claims (sVar 2) aNil) (aNil)))) (sDrop (sBM isLstM rhoApp (sVar 1) (aCons (sVar 2) (aNil)))))) (sFreeze 1 (sRet (sVar 1))))
theorem b_joined {P : Program} {w : World} {K : PySem.W.Frag} {mg : Str → Option Value} {base : Heap} {a : Ad} {T_Clause_claims : PT1} (Z : Tx P w K mg a) (F_Clause_claims : FnQ false P w K mg base 2 (a.m "Clause" "claims") T_Clause_claims) : Body false P w K mg base 2 N_joined "joined" (defScope (top 32)) (a.g "joined") (defBody (top 32)) (s_joined K a T_Clause_claims) := by
  intro cdv A outer st H E hr hg
  exact (lss_cons (ls_set 1 sc_joined.nd (le_lstM la_nil)) (lss_cons (ls_for PySem.PassesOwn.never rfl (li_tup (lv 0)) (lg_name 2 sc_joined.nd) (lss_one (ls_if (lt_val (le_blt lc_isi Z.f_isinstance bt_isinstance (la_cons (lv 2) (la_cons (le_gref Z.g_Clause) la_nil)))) (lss_one (ls_expr (le_extend (lv 1) (la_cons (le_meth0 (lv 2) Z.c_Clause Z.m_Clause_claims F_Clause_claims (hr.mono (by decide))) la_nil)))) (lss_one (ls_expr (le_append (lv 1) (la_cons (lv 2) la_nil))))))) (lss_freeze 1 (lss_one (ls_ret (lv 1))))))
abbrev N_read_word : List Str := ["form", "word", "text", "number"]
theorem sc_read_word : FnScope N_read_word ["form", "word", "text"] (defScope (top 33)) := ⟨rfl, rfl, rfl, by decide +kernel, rfl, by decide +kernel, by decide +kernel⟩
def s_read_word (K : PySem.W.Frag) (a : Ad) (T_is_name T_number_of : PT1) : SS := sSeq (sIf (sOr (sAnd (sTest (sBin (rhoEq false) (sVar 0) (sC (.str "any")))) (sTest (sBin (rhoEq false) (sVar 1) (sC (.str "any"))))) (sAnd (sTest (sBin (rhoEq false) (sVar 0) (sC (.str "end")))) (sTest (sBin (rhoEq false) (sVar 1) (sC (.str "end")))))) (sRet (sC .non)) (sNext)) (sSeq (sIf (sTest (sBin (rhoIn false) (sVar 0) (sTup (aCons (sC (.str "name")) (aCons (sC (.str "any")) (aNil)))))) (sSeq (sIf (sNot (sTest (sCall T_is_name (aCons (sVar 1) (aNil))))) (sNever) (sNext)) (sRet (sVar 1))) (sNext)) (sSeq (sSet 3 (sCall T_number_of (aCons (sVar 1) (aNil)))) (sSeq (sIf (sTest (sBin (rhoIsN false) (sVar 3) (sC .non))) (sNever) (sNext)) (sRet (sVar 3)))))
theorem b_read_word {P : Program} {w : World} {K : PySem.W.Frag} {mg : Str → Option Value} {base : Heap} {a : Ad} {T_is_name T_number_of : PT1} (Z : Tx P w K mg a) (F_is_name : FnQ false P w K mg base 2 (a.g "is_name") T_is_name) (F_number_of : FnQ false P w K mg base 2 (a.g "number_of") T_number_of) : Body false P w K mg base 2 N_read_word "read_word" (defScope (top 33)) (a.g "read_word") (defBody (top 33)) (s_read_word K a T_is_name T_number_of) := by
  intro cdv A outer st H E hr hg
  exact (lss_cons (ls_if (lw_pt (lw_or (lw_pt (lw_and (lt_cmp (lo_eq (Room.u64 hr)) (lv 0) le_str) (lw_and1 (lt_cmp (lo_eq (Room.u64 hr)) (lv 1) le_str)))) (lw_or1 (lw_pt (lw_and (lt_cmp (lo_eq (Room.u64 hr)) (lv 0) le_str) (lw_and1 (lt_cmp (lo_eq (Room.u64 hr)) (lv 1) le_str))))))) (lss_one (ls_ret le_non)) lss_nil) (lss_cons (ls_if (lt_cmp (lo_in (Room.u65 hr)) (lv 0) (le_tup (la_cons le_str (la_cons le_str la_nil)))) (lss_cons (ls_if (lt_not (lt_val (le_call F_is_name (hr.mono (by decide)) Z.g_is_name Z.k_is_name (la_cons (lv 1) la_nil)))) (lss_one ls_never) lss_nil) (lss_one (ls_ret (lv 1)))) lss_nil) (lss_cons (ls_set 3 sc_read_word.nd (le_call F_number_of (hr.mono (by decide)) Z.g_number_of Z.k_number_of (la_cons (lv 1) la_nil))) (lss_cons (ls_if (lt_cmp lo_is (lv 3) le_non) (lss_one ls_never) lss_nil) (lss_one (ls_ret (lv 3)))))))
abbrev N_parse_claim : List Str := ["text", "words", "positive", "forms", "items", "form", "word"]
theorem sc_parse_claim : FnScope N_parse_claim ["text"] (defScope (top 34)) := ⟨rfl, rfl, rfl, by decide +kernel, rfl, by decide +kernel, by decide +kernel⟩
def s_parse_claim (K : PySem.W.Frag) (a : Ad) (T_read_word T_Claim_init : PT1) : SS := sSeq (sSet 1 (sBM isStrD rhoSplit (sVar 0) (aCons (sC (.str " ")) (aNil)))) (sSeq (sSet 2 (sBin (rhoEq true) (sBin rhoIx (sVar 1) (sC (.int 0))) (sC (.str "not")))) (sSeq (sIf (sNot (sTest (sVar 2))) (sSet 1 (sSl (sVar 1) (oSome (sC (.int 1))) (oNo))) (sNext)) (sSeq (sIf (sOr (sTest (sBin (rhoEq false) (sBlt rhoLen (aCons (sVar 1) (aNil))) (sC (.int 0)))) (sTest (sBin (rhoNotInK (a.g "FORMS") formsD) (sBin rhoIx (sVar 1) (sC (.int 0))) (sC (.ref (a.g "FORMS")))))) (sNever) (sNext)) (sSeq (sSet 3 (sBin (rhoIxK (a.g "FORMS") formsD) (sC (.ref (a.g "FORMS"))) (sBin rhoIx (sVar 1) (sC (.int 0))))) (sSeq (sIf (sTest (sBin (rhoEq true) (sBlt rhoLen (aCons (sVar 1) (aNil))) (sBin rhoAdd (sBlt rhoLen (aCons (sVar 3) (aNil))) (sC (.int 1))))) (sNever) (sNext)) (sSeq (sSet 4 (sLstM (aCons (sBin rhoIx (sVar 1) (sC (.int 0))) (aNil)))) (sSeq (sFor (iZipM (aCons (sVar 3) (aCons (sSl (sVar 1) (oSome (sC (.int 1))) (oNo)) (aNil)))) (gTuple 2 (gsCons (gN 5) (gsCons (gN 6) (gsNil)))) (sDrop (sBM isLstM rhoApp (sVar 4) (aCons (sCall T_read_word (aCons (sVar 5) (aCons (sVar 6) (aCons (sVar 0) (aNil))))) (aNil))))) (sRet (sMake (a.g "Claim") T_Claim_init (aCons (sBlt rhoTuple (aCons (sVar 4) (aNil))) (aCons (sVar 2) (aNil))))))))))))
theorem b_parse_claim {P : Program} {w : World} {K : PySem.W.Frag} {mg : Str → Option Value} {base : Heap} {a : Ad} {T_read_word T_Claim_init : PT1} (Z : Tx P w K mg a) (F_read_word : FnQ false P w K mg base 3 (a.g "read_word") T_read_word) (F_Claim_init : FnQ false P w K mg base 2 (a.m "Claim" "__init__") T_Claim_init) : Body false P w K mg base 3 N_parse_claim "parse_claim" (defScope (top 34)) (a.g "parse_claim") (defBody (top 34)) (s_parse_claim K a T_read_word T_Claim_init) := by
  intro cdv A outer st H E hr hg
  exact (lss_cons (ls_set 1 sc_parse_claim.nd (le_split (lv 0) (la_cons le_str la_nil))) (lss_cons (ls_set 2 sc_parse_claim.nd (le_cmp (lo_ne (Room.u64 hr)) (le_ix (lv 1) le_int) le_str)) (lss_cons (ls_if (lt_not (lt_val (lv 2))) (lss_one (ls_set 1 sc_parse_claim.nd (le_slice (lv 1) (lo_some le_int) lo_no))) lss_nil) (lss_cons (ls_if (lw_pt (lw_or (lt_cmp (lo_eq (Room.u64 hr)) (le_blt lc_len Z.f_len bt_len (la_cons (lv 1) la_nil)) le_int) (lw_or1 (lt_cmp (lo_notinK Z.forms) (le_ix (lv 1) le_int) (le_gref Z.g_FORMS))))) (lss_one ls_never) lss_nil) (lss_cons (ls_set 3 sc_parse_claim.nd (le_ixK Z.forms (le_gref Z.g_FORMS) (le_ix (lv 1) le_int))) (lss_cons (ls_if (lt_cmp (lo_ne (Room.u64 hr)) (le_blt lc_len Z.f_len bt_len (la_cons (lv 1) la_nil)) (le_bin lo_add (le_blt lc_len Z.f_len bt_len (la_cons (lv 3) la_nil)) le_int)) (lss_one ls_never) lss_nil) (lss_cons (ls_set 4 sc_parse_claim.nd (le_lstM (la_cons (le_ix (lv 1) le_int) la_nil))) (lss_cons (ls_for PySem.PassesOwn.never rfl (li_zipM Z.f_zip (la_cons (lv 3) (la_cons (le_slice (lv 1) (lo_some le_int) lo_no) la_nil))) (lg_tup rfl (lgs_cons (lg_name 5 sc_parse_claim.nd) (lgs_cons (lg_name 6 sc_parse_claim.nd) lgs_nil))) (lss_one (ls_expr (le_append (lv 4) (la_cons (le_call F_read_word (hr.mono (by decide)) Z.g_read_word Z.k_read_word (la_cons (lv 5) (la_cons (lv 6) (la_cons (lv 0) la_nil)))) la_nil))))) (lss_one (ls_ret (le_make Z.mk_Claim F_Claim_init (hr.mono (by decide)) Z.g_Claim (la_cons (le_bltT lc_tuple Z.f_tuple bt_tuple (la_cons (lv 4) la_nil)) (la_cons (lv 2) la_nil)))))))))))))
abbrev N_parse_clause : List Str := ["text", "claims", "part"]
theorem sc_parse_clause : FnScope N_parse_clause ["text"] (defScope (top 35)) := ⟨rfl, rfl, rfl, by decide +kernel, rfl, by decide +kernel, by decide +kernel⟩
def s_parse_clause (K : PySem.W.Frag) (a : Ad) (T_parse_claim T_Clause_init : PT1) : SS := sSeq (sSet 1 (sLc (iLst (sBM isStrD rhoSplit (sVar 0) (aCons (sC (.str " or ")) (aNil)))) (tAll) (sCall T_parse_claim (aCons (sVar 2) (aNil))) 2)) (sRet (sMakeS (a.g "Clause") T_Clause_init (aStar (sVar 1) aNil)))
theorem b_parse_clause {P : Program} {w : World} {K : PySem.W.Frag} {mg : Str → Option Value} {base : Heap} {a : Ad} {T_parse_claim T_Clause_init : PT1} (Z : Tx P w K mg a) (F_parse_claim : FnQ false P w K mg base 4 (a.g "parse_claim") T_parse_claim) (F_Clause_init : FnQ false P w K mg base 2 (a.m "Clause" "__init__") T_Clause_init) : Body false P w K mg base 4 N_parse_clause "parse_clause" (defScope (top 35)) (a.g "parse_clause") (defBody (top 35)) (s_parse_clause K a T_parse_claim T_Clause_init) := by
  intro cdv A outer st H E hr hg
  exact (lss_cons (ls_setLc (i := 1) rfl sc_parse_clause.nd rfl rfl rfl (li_list (le_split (lv 0) (la_cons le_str la_nil))) (blkok_by (N := N_parse_clause) (sc := defScope (top 35)) rfl (by decide +kernel)) (fun s H C cl fp => pg_name sc_parse_clause.nd rfl (by first | exact Or.inl rfl | exact Or.inr rfl)) (fun s H C cl fp => pts_all) (fun s H C cl fp => (le_call F_parse_claim (hr.mono (by decide)) Z.g_parse_claim Z.k_parse_claim (la_cons (lv 2) la_nil)))) (lss_one (ls_ret (le_makeS1 Z.mk_Clause F_Clause_init (hr.mono (by decide)) Z.g_Clause (lv 1)))))
abbrev N_read_names : List Str := ["line", "word", "words", "name"]
theorem sc_read_names : FnScope N_read_names ["line", "word"] (defScope (top 38)) := ⟨rfl, rfl, rfl, by decide +kernel, rfl, by decide +kernel, by decide +kernel⟩
def s_read_names (K : PySem.W.Frag) (a : Ad) (T_is_name : PT1) : SS := sSeq (sSet 2 (sBM isStrD rhoSplit (sVar 0) (aCons (sC (.str " ")) (aNil)))) (sSeq (sIf (sOr (sTest (sBin (rhoEq true) (sBin rhoIx (sVar 2) (sC (.int 0))) (sVar 1))) (sTest (sBin rhoLt (sBlt rhoLen (aCons (sVar 2) (aNil))) (sC (.int 2))))) (sRet (sC .non)) (sNext)) (sSeq (sFor (iLst (sSl (sVar 2) (oSome (sC (.int 1))) (oNo))) (gN 3) (sIf (sNot (sTest (sCall T_is_name (aCons (sVar 3) (aNil))))) (sRet (sC .non)) (sNext))) (sRet (sSl (sVar 2) (oSome (sC (.int 1))) (oNo)))))
theorem b_read_names {P : Program} {w : World} {K : PySem.W.Frag} {mg : Str → Option Value} {base : Heap} {a : Ad} {T_is_name : PT1} (Z : Tx P w K mg a) (F_is_name : FnQ false P w K mg base 2 (a.g "is_name") T_is_name) : Body false P w K mg base 2 N_read_names "read_names" (defScope (top 38)) (a.g "read_names") (defBody (top 38)) (s_read_names K a T_is_name) := by
  intro cdv A outer st H E hr hg
  exact (lss_cons (ls_set 2 sc_read_names.nd (le_split (lv 0) (la_cons le_str la_nil))) (lss_cons (ls_if (lw_pt (lw_or (lt_cmp (lo_ne (Room.u64 hr)) (le_ix (lv 2) le_int) (lv 1)) (lw_or1 (lt_cmp lo_lt (le_blt lc_len Z.f_len bt_len (la_cons (lv 2) la_nil)) le_int)))) (lss_one (ls_ret le_non)) lss_nil) (lss_cons (ls_for PySem.PassesOwn.never rfl (li_list (le_slice (lv 2) (lo_some le_int) lo_no)) (lg_name 3 sc_read_names.nd) (lss_one (ls_if (lt_not (lt_val (le_call F_is_name (hr.mono (by decide)) Z.g_is_name Z.k_is_name (la_cons (lv 3) la_nil)))) (lss_one (ls_ret le_non)) lss_nil))) (lss_one (ls_ret (le_slice (lv 2) (lo_some le_int) lo_no))))))
abbrev N_read_last : List Str := ["line", "words"]
theorem sc_read_last : FnScope N_read_last ["line"] (defScope (top 39)) := ⟨rfl, rfl, rfl, by decide +kernel, rfl, by decide +kernel, by decide +kernel⟩
def s_read_last (K : PySem.W.Frag) (a : Ad) (T_number_of : PT1) : SS := sSeq (sSet 1 (sBM isStrD rhoSplit (sVar 0) (aCons (sC (.str " ")) (aNil)))) (sSeq (sIf (sOr (sTest (sBin (rhoEq true) (sBlt rhoLen (aCons (sVar 1) (aNil))) (sC (.int 2)))) (sTest (sBin (rhoEq true) (sBin rhoIx (sVar 1) (sC (.int 0))) (sC (.str "last"))))) (sRet (sC .non)) (sNext)) (sRet (sCall T_number_of (aCons (sBin rhoIx (sVar 1) (sC (.int 1))) (aNil)))))
theorem b_read_last {P : Program} {w : World} {K : PySem.W.Frag} {mg : Str → Option Value} {base : Heap} {a : Ad} {T_number_of : PT1} (Z : Tx P w K mg a) (F_number_of : FnQ false P w K mg base 2 (a.g "number_of") T_number_of) : Body false P w K mg base 2 N_read_last "read_last" (defScope (top 39)) (a.g "read_last") (defBody (top 39)) (s_read_last K a T_number_of) := by
  intro cdv A outer st H E hr hg
  exact (lss_cons (ls_set 1 sc_read_last.nd (le_split (lv 0) (la_cons le_str la_nil))) (lss_cons (ls_if (lw_pt (lw_or (lt_cmp (lo_ne (Room.u64 hr)) (le_blt lc_len Z.f_len bt_len (la_cons (lv 1) la_nil)) le_int) (lw_or1 (lt_cmp (lo_ne (Room.u64 hr)) (le_ix (lv 1) le_int) le_str)))) (lss_one (ls_ret le_non)) lss_nil) (lss_one (ls_ret (le_call F_number_of (hr.mono (by decide)) Z.g_number_of Z.k_number_of (la_cons (le_ix (lv 1) le_int) la_nil))))))
abbrev N_read_limit : List Str := ["words", "line", "count"]
theorem sc_read_limit : FnScope N_read_limit ["words", "line"] (defScope (top 40)) := ⟨rfl, rfl, rfl, by decide +kernel, rfl, by decide +kernel, by decide +kernel⟩
def s_read_limit (K : PySem.W.Frag) (a : Ad) (T_number_of : PT1) : SS := sSeq (sIf (sOr (sTest (sBin (rhoEq true) (sBlt rhoLen (aCons (sVar 0) (aNil))) (sC (.int 3)))) (sTest (sBin (rhoIn true) (sBin rhoIx (sVar 0) (sC (.int 1))) (sC (.tup [.str "begins", .str "held", .str "turns", .str "tellers"]))))) (sNever) (sNext)) (sSeq (sIf (sTest (sBin (rhoEq false) (sBin rhoIx (sVar 0) (sC (.int 2))) (sC (.str "none")))) (sRet (sTup (aCons (sC (.str "limit")) (aCons (sBin rhoIx (sVar 0) (sC (.int 1))) (aCons (sC .non) (aNil)))))) (sNext)) (sSeq (sSet 2 (sCall T_number_of (aCons (sBin rhoIx (sVar 0) (sC (.int 2))) (aNil)))) (sSeq (sIf (sTest (sBin (rhoIsN false) (sVar 2) (sC .non))) (sNever) (sNext)) (sRet (sTup (aCons (sC (.str "limit")) (aCons (sBin rhoIx (sVar 0) (sC (.int 1))) (aCons (sVar 2) (aNil)))))))))
theorem b_read_limit {P : Program} {w : World} {K : PySem.W.Frag} {mg : Str → Option Value} {base : Heap} {a : Ad} {T_number_of : PT1} (Z : Tx P w K mg a) (F_number_of : FnQ false P w K mg base 2 (a.g "number_of") T_number_of) : Body false P w K mg base 2 N_read_limit "read_limit" (defScope (top 40)) (a.g "read_limit") (defBody (top 40)) (s_read_limit K a T_number_of) := by
  intro cdv A outer st H E hr hg
  exact (lss_cons (ls_if (lw_pt (lw_or (lt_cmp (lo_ne (Room.u64 hr)) (le_blt lc_len Z.f_len bt_len (la_cons (lv 0) la_nil)) le_int) (lw_or1 (lt_cmp (lo_notin (Room.u65 hr)) (le_ix (lv 0) le_int) (le_gtup Z.g_KINDS Z.i_KINDS))))) (lss_one ls_never) lss_nil) (lss_cons (ls_if (lt_cmp (lo_eq (Room.u64 hr)) (le_ix (lv 0) le_int) le_str) (lss_one (ls_ret (le_tup (la_cons le_str (la_cons (le_ix (lv 0) le_int) (la_cons le_non la_nil)))))) lss_nil) (lss_cons (ls_set 2 sc_read_limit.nd (le_call F_number_of (hr.mono (by decide)) Z.g_number_of Z.k_number_of (la_cons (le_ix (lv 0) le_int) la_nil))) (lss_cons (ls_if (lt_cmp lo_is (lv 2) le_non) (lss_one ls_never) lss_nil) (lss_one (ls_ret (le_tup (la_cons le_str (la_cons (le_ix (lv 0) le_int) (la_cons (lv 2) la_nil))))))))))
abbrev N_read_line : List Str := ["line", "words", "day", "name"]
theorem sc_read_line : FnScope N_read_line ["line"] (defScope (top 41)) := ⟨rfl, rfl, rfl, by decide +kernel, rfl, by decide +kernel, by decide +kernel⟩
def s_read_line (K : PySem.W.Frag) (a : Ad) (T_parse_clause T_read_limit T_number_of T_is_name : PT1) : SS := sSeq (sSet 1 (sBM isStrD rhoSplit (sVar 0) (aCons (sC (.str " ")) (aNil)))) (sSeq (sIf (sAnd (sTest (sBin (rhoEq false) (sBin rhoIx (sVar 1) (sC (.int 0))) (sC (.str "fact")))) (sTest (sBin rhoGt (sBlt rhoLen (aCons (sVar 1) (aNil))) (sC (.int 1))))) (sRet (sTup (aCons (sC (.str "fact")) (aCons (sCall T_parse_clause (aCons (sBM isStrD rhoJoin (sC (.str " ")) (aCons (sSl (sVar 1) (oSome (sC (.int 1))) (oNo)) (aNil))) (aNil))) (aNil))))) (sNext)) (sSeq (sIf (sTest (sBin (rhoEq false) (sBin rhoIx (sVar 1) (sC (.int 0))) (sC (.str "limit")))) (sRet (sCall T_read_limit (aCons (sVar 1) (aCons (sVar 0) (aNil))))) (sNext)) (sSeq (sIf (sTest (sBin (rhoEq true) (sBlt rhoLen (aCons (sVar 1) (aNil))) (sC (.int 4)))) (sNever) (sNext)) (sSeq (sSet 2 (sCall T_number_of (aCons (sBin rhoIx (sVar 1) (sC (.int 1))) (aNil)))) (sSeq (sFor (iLst (sSl (sVar 1) (oSome (sC (.int 2))) (oNo))) (gN 3) (sIf (sNot (sTest (sCall T_is_name (aCons (sVar 3) (aNil))))) (sNever) (sNext))) (sSeq (sIf (sAnd (sTest (sBin (rhoEq false) (sBin rhoIx (sVar 1) (sC (.int 0))) (sC (.str "turn")))) (sTest (sCall T_is_name (aCons (sBin rhoIx (sVar 1) (sC (.int 1))) (aNil))))) (sRet (sTup (aCons (sC (.str "turn")) (aCons (sBin rhoIx (sVar 1) (sC (.int 1))) (aCons (sBin rhoIx (sVar 1) (sC (.int 2))) (aCons (sBin rhoIx (sVar 1) (sC (.int 3))) (aNil))))))) (sNext)) (sSeq (sIf (sAnd (sTest (sBin (rhoIn false) (sBin rhoIx (sVar 1) (sC (.int 0))) (sTup (aCons (sC (.str "meet")) (aCons (sC (.str "maybe")) (aNil)))))) (sTest (sBin (rhoIsN true) (sVar 2) (sC .non)))) (sRet (sTup (aCons (sC (.str "meet")) (aCons (sVar 2) (aCons (sBin rhoIx (sVar 1) (sC (.int 2))) (aCons (sBin rhoIx (sVar 1) (sC (.int 3))) (aCons (sBin (rhoEq false) (sBin rhoIx (sVar 1) (sC (.int 0))) (sC (.str "meet"))) (aNil)))))))) (sNext)) (sNever))))))))
theorem b_read_line {P : Program} {w : World} {K : PySem.W.Frag} {mg : Str → Option Value} {base : Heap} {a : Ad} {T_parse_clause T_read_limit T_number_of T_is_name : PT1} (Z : Tx P w K mg a) (F_parse_clause : FnQ false P w K mg base 5 (a.g "parse_clause") T_parse_clause) (F_read_limit : FnQ false P w K mg base 3 (a.g "read_limit") T_read_limit) (F_number_of : FnQ false P w K mg base 2 (a.g "number_of") T_number_of) (F_is_name : FnQ false P w K mg base 2 (a.g "is_name") T_is_name) : Body false P w K mg base 5 N_read_line "read_line" (defScope (top 41)) (a.g "read_line") (defBody (top 41)) (s_read_line K a T_parse_clause T_read_limit T_number_of T_is_name) := by
  intro cdv A outer st H E hr hg
  exact (lss_cons (ls_set 1 sc_read_line.nd (le_split (lv 0) (la_cons le_str la_nil))) (lss_cons (ls_if (lw_pt (lw_and (lt_cmp (lo_eq (Room.u64 hr)) (le_ix (lv 1) le_int) le_str) (lw_and1 (lt_cmp lo_gt (le_blt lc_len Z.f_len bt_len (la_cons (lv 1) la_nil)) le_int)))) (lss_one (ls_ret (le_tup (la_cons le_str (la_cons (le_call F_parse_clause (hr.mono (by decide)) Z.g_parse_clause Z.k_parse_clause (la_cons (le_join le_str (la_cons (le_slice (lv 1) (lo_some le_int) lo_no) la_nil)) la_nil)) la_nil))))) lss_nil) (lss_cons (ls_if (lt_cmp (lo_eq (Room.u64 hr)) (le_ix (lv 1) le_int) le_str) (lss_one (ls_ret (le_call F_read_limit (hr.mono (by decide)) Z.g_read_limit Z.k_read_limit (la_cons (lv 1) (la_cons (lv 0) la_nil))))) lss_nil) (lss_cons (ls_if (lt_cmp (lo_ne (Room.u64 hr)) (le_blt lc_len Z.f_len bt_len (la_cons (lv 1) la_nil)) le_int) (lss_one ls_never) lss_nil) (lss_cons (ls_set 2 sc_read_line.nd (le_call F_number_of (hr.mono (by decide)) Z.g_number_of Z.k_number_of (la_cons (le_ix (lv 1) le_int) la_nil))) (lss_cons (ls_for PySem.PassesOwn.never rfl (li_list (le_slice (lv 1) (lo_some le_int) lo_no)) (lg_name 3 sc_read_line.nd) (lss_one (ls_if (lt_not (lt_val (le_call F_is_name (hr.mono (by decide)) Z.g_is_name Z.k_is_name (la_cons (lv 3) la_nil)))) (lss_one ls_never) lss_nil))) (lss_cons (ls_if (lw_pt (lw_and (lt_cmp (lo_eq (Room.u64 hr)) (le_ix (lv 1) le_int) le_str) (lw_and1 (lt_val (le_call F_is_name (hr.mono (by decide)) Z.g_is_name Z.k_is_name (la_cons (le_ix (lv 1) le_int) la_nil)))))) (lss_one (ls_ret (le_tup (la_cons le_str (la_cons (le_ix (lv 1) le_int) (la_cons (le_ix (lv 1) le_int) (la_cons (le_ix (lv 1) le_int) la_nil))))))) lss_nil) (lss_cons (ls_if (lw_pt (lw_and (lt_cmp (lo_in (Room.u65 hr)) (le_ix (lv 1) le_int) (le_tup (la_cons le_str (la_cons le_str la_nil)))) (lw_and1 (lt_cmp lo_isnot (lv 2) le_non)))) (lss_one (ls_ret (le_tup (la_cons le_str (la_cons (lv 2) (la_cons (le_ix (lv 1) le_int) (la_cons (le_ix (lv 1) le_int) (la_cons (le_cmp (lo_eq (Room.u64 hr)) (le_ix (lv 1) le_int) le_str) la_nil)))))))) lss_nil) (lss_one ls_never)))))))))
abbrev N_limit_line : List Str := ["kind", "count"]
theorem sc_limit_line : FnScope N_limit_line ["kind", "count"] (defScope (top 42)) := ⟨rfl, rfl, rfl, by decide +kernel, rfl, by decide +kernel, by decide +kernel⟩
def s_limit_line (K : PySem.W.Frag) (a : Ad) : SS := sSeq (sIf (sTest (sBin (rhoIsN false) (sVar 1) (sC .non))) (sRet (sJoined [sC (.str "limit "), sFmt (sVar 0), sC (.str " none")])) (sNext)) (sRet (sJoined [sC (.str "limit "), sFmt (sVar 0), sC (.str " "), sFmt (sVar 1)]))
theorem b_limit_line {P : Program} {w : World} {K : PySem.W.Frag} {mg : Str → Option Value} {base : Heap} {a : Ad} (Z : Tx P w K mg a)  : Body false P w K mg base 1 N_limit_line "limit_line" (defScope (top 42)) (a.g "limit_line") (defBody (top 42)) (s_limit_line K a) := by
  intro cdv A outer st H E hr hg
  exact (lss_cons (ls_if (lt_cmp lo_is (lv 1) le_non) (lss_one (ls_ret (le_joined (lj_cons le_str (lj_cons (le_fmt (lv 0)) (lj_cons le_str lj_nil)))))) lss_nil) (lss_one (ls_ret (le_joined (lj_cons le_str (lj_cons (le_fmt (lv 0)) (lj_cons le_str (lj_cons (le_fmt (lv 1)) lj_nil))))))))
abbrev N_check_known : List Str := ["name", "names"]
theorem sc_check_known : FnScope N_check_known ["name", "names"] (defScope (top 44)) := ⟨rfl, rfl, rfl, by decide +kernel, rfl, by decide +kernel, by decide +kernel⟩
def s_check_known (K : PySem.W.Frag) (a : Ad) : SS := sIf (sAnd (sTest (sBin (rhoIsN true) (sVar 0) (sC .non))) (sTest (sBin (rhoIn true) (sVar 0) (sVar 1)))) (sNever) (sNext)
theorem b_check_known {P : Program} {w : World} {K : PySem.W.Frag} {mg : Str → Option Value} {base : Heap} {a : Ad} (Z : Tx P w K mg a)  : Body false P w K mg base 1 N_check_known "check_known" (defScope (top 44)) (a.g "check_known") (defBody (top 44)) (s_check_known K a) := by
  intro cdv A outer st H E hr hg
  exact (lss_one (ls_if (lw_pt (lw_and (lt_cmp lo_isnot (lv 0) le_non) (lw_and1 (lt_cmp (lo_notin (Room.u65 hr)) (lv 0) (lv 1))))) (lss_one ls_never) lss_nil))
abbrev N_check_told : List Str := ["book", "words", "people"]
theorem sc_check_told : FnScope N_check_told ["book", "words"] (defScope (top 45)) := ⟨rfl, rfl, rfl, by decide +kernel, rfl, by decide +kernel, by decide +kernel⟩
def s_check_told (K : PySem.W.Frag) (a : Ad) (T_Book_people T_check_known : PT1) : SS := sSeq (sSet 2 (sMeth (a.g "Book") "people" T_Book_people (sVar 0) aNil)) (sSeq (sDrop (sCall T_check_known (aCons (sBin rhoIx (sVar 1) (sC (.int 1))) (aCons (sVar 2) (aNil))))) (sSeq (sDrop (sCall T_check_known (aCons (sBin rhoIx (sVar 1) (sC (.int 2))) (aCons (sVar 2) (aNil))))) (sSeq (sIf (sNot (sTest (sChain rhoLe rhoLe (sC (.int 1)) (sBin rhoIx (sVar 1) (sC (.int 3))) (sFld (GBook a) "last_day" (sVar 0))))) (sNever) (sNext)) (sIf (sAnd (sTest (sBin (rhoIsN true) (sBin rhoIx (sVar 1) (sC (.int 4))) (sC .non))) (sNot (sTest (sChain rhoLe rhoLe (sBin rhoIx (sVar 1) (sC (.int 3))) (sBin rhoIx (sVar 1) (sC (.int 4))) (sFld (GBook a) "last_day" (sVar 0)))))) (sNever) (sNext)))))
theorem b_check_told {P : Program} {w : World} {K : PySem.W.Frag} {mg : Str → Option Value} {base : Heap} {a : Ad} {T_Book_people T_check_known : PT1} (Z : Tx P w K mg a) (F_Book_people : FnQ false P w K mg base 2 (a.m "Book" "people") T_Book_people) (F_check_known : FnQ false P w K mg base 2 (a.g "check_known") T_check_known) : Body false P w K mg base 2 N_check_told "check_told" (defScope (top 45)) (a.g "check_told") (defBody (top 45)) (s_check_told K a T_Book_people T_check_known) := by
  intro cdv A outer st H E hr hg
  exact (lss_cons (ls_set 2 sc_check_told.nd (le_meth0 (lv 0) Z.c_Book Z.m_Book_people F_Book_people (hr.mono (by decide)))) (lss_cons (ls_expr (le_call F_check_known (hr.mono (by decide)) Z.g_check_known Z.k_check_known (la_cons (le_ix (lv 1) le_int) (la_cons (lv 2) la_nil)))) (lss_cons (ls_expr (le_call F_check_known (hr.mono (by decide)) Z.g_check_known Z.k_check_known (la_cons (le_ix (lv 1) le_int) (la_cons (lv 2) la_nil)))) (lss_cons (ls_if (lt_not (lt_chain lo_le lo_le le_int (le_ix (lv 1) le_int) (le_fld Z.a_last_day (lv 0)))) (lss_one ls_never) lss_nil) (lss_one (ls_if (lw_pt (lw_and (lt_cmp lo_isnot (le_ix (lv 1) le_int) le_non) (lw_and1 (lt_not (lt_chain lo_le lo_le (le_ix (lv 1) le_int) (le_ix (lv 1) le_int) (le_fld Z.a_last_day (lv 0))))))) (lss_one ls_never) lss_nil))))))
abbrev N_check_claim : List Str := ["book", "claim", "words", "name", "meetings"]
theorem sc_check_claim : FnScope N_check_claim ["book", "claim"] (defScope (top 46)) := ⟨rfl, rfl, rfl, by decide +kernel, rfl, by decide +kernel, by decide +kernel⟩
def s_check_claim (K : PySem.W.Frag) (a : Ad) (T_check_told T_Book_meetings T_check_known T_Book_people T_Book_versions : PT1) : SS := sSeq (sSet 2 (sFld (GClaim a) "words" (sVar 1))) (sSeq (sIf (sTest (sBin (rhoEq false) (sBin rhoIx (sVar 2) (sC (.int 0))) (sC (.str "told")))) (sSeq (sDrop (sCall T_check_told (aCons (sVar 0) (aCons (sVar 2) (aNil))))) (sRetN)) (sNext)) (sSeq (sIf (sTest (sBin (rhoEq false) (sBin rhoIx (sVar 2) (sC (.int 0))) (sC (.str "held")))) (sSeq (sSet 4 (sMeth (a.g "Book") "meetings" T_Book_meetings (sVar 0) aNil)) (sSeq (sIf (sNot (sTest (sChain rhoLe rhoLt (sC (.int 0)) (sBin rhoIx (sVar 2) (sC (.int 1))) (sBlt rhoLen (aCons (sVar 4) (aNil)))))) (sNever) (sNext)) (sSeq (sIf (sTest (sBin rhoIx (sBin rhoIx (sVar 4) (sBin rhoIx (sVar 2) (sC (.int 1)))) (sC (.int 3)))) (sNever) (sNext)) (sRetN)))) (sNext)) (sSeq (sDrop (sCall T_check_known (aCons (sBin rhoIx (sVar 2) (sC (.int 1))) (aCons (sMeth (a.g "Book") "people" T_Book_people (sVar 0) aNil) (aNil))))) (sSeq (sIf (sTest (sBin (rhoEq false) (sBin rhoIx (sVar 2) (sC (.int 0))) (sC (.str "knew")))) (sSeq (sIf (sNot (sTest (sChain rhoLe rhoLe (sC (.int 0)) (sBin rhoIx (sVar 2) (sC (.int 2))) (sFld (GBook a) "last_day" (sVar 0))))) (sNever) (sNext)) (sSeq (sDrop (sCall T_check_known (aCons (sBin rhoIx (sVar 2) (sC (.int 3))) (aCons (sMeth (a.g "Book") "versions" T_Book_versions (sVar 0) aNil) (aNil))))) (sRetN))) (sNext)) (sFor (iTp (sSl (sVar 2) (oSome (sC (.int 2))) (oNo))) (gN 3) (sDrop (sCall T_check_known (aCons (sVar 3) (aCons (sMeth (a.g "Book") "versions" T_Book_versions (sVar 0) aNil) (aNil))))))))))
theorem b_check_claim {P : Program} {w : World} {K : PySem.W.Frag} {mg : Str → Option Value} {base : Heap} {a : Ad} {T_check_told T_Book_meetings T_check_known T_Book_people T_Book_versions : PT1} (Z : Tx P w K mg a) (F_check_told : FnQ false P w K mg base 3 (a.g "check_told") T_check_told) (F_Book_meetings : FnQ false P w K mg base 2 (a.m "Book" "meetings") T_Book_meetings) (F_check_known : FnQ false P w K mg base 2 (a.g "check_known") T_check_known) (F_Book_people : FnQ false P w K mg base 2 (a.m "Book" "people") T_Book_people) (F_Book_versions : FnQ false P w K mg base 2 (a.m "Book" "versions") T_Book_versions) : Body false P w K mg base 3 N_check_claim "check_claim" (defScope (top 46)) (a.g "check_claim") (defBody (top 46)) (s_check_claim K a T_check_told T_Book_meetings T_check_known T_Book_people T_Book_versions) := by
  intro cdv A outer st H E hr hg
  exact (lss_cons (ls_set 2 sc_check_claim.nd (le_fld Z.a_words (lv 1))) (lss_cons (ls_if (lt_cmp (lo_eq (Room.u64 hr)) (le_ix (lv 2) le_int) le_str) (lss_cons (ls_expr (le_call F_check_told (hr.mono (by decide)) Z.g_check_told Z.k_check_told (la_cons (lv 0) (la_cons (lv 2) la_nil)))) (lss_one ls_retN)) lss_nil) (lss_cons (ls_if (lt_cmp (lo_eq (Room.u64 hr)) (le_ix (lv 2) le_int) le_str) (lss_cons (ls_set 4 sc_check_claim.nd (le_meth0 (lv 0) Z.c_Book Z.m_Book_meetings F_Book_meetings (hr.mono (by decide)))) (lss_cons (ls_if (lt_not (lt_chain lo_le lo_lt le_int (le_ix (lv 2) le_int) (le_blt lc_len Z.f_len bt_len (la_cons (lv 4) la_nil)))) (lss_one ls_never) lss_nil) (lss_cons (ls_if (lt_val (le_ix (le_ix (lv 4) (le_ix (lv 2) le_int)) le_int)) (lss_one ls_never) lss_nil) (lss_one ls_retN)))) lss_nil) (lss_cons (ls_expr (le_call F_check_known (hr.mono (by decide)) Z.g_check_known Z.k_check_known (la_cons (le_ix (lv 2) le_int) (la_cons (le_meth0 (lv 0) Z.c_Book Z.m_Book_people F_Book_people (hr.mono (by decide))) la_nil)))) (lss_cons (ls_if (lt_cmp (lo_eq (Room.u64 hr)) (le_ix (lv 2) le_int) le_str) (lss_cons (ls_if (lt_not (lt_chain lo_le lo_le le_int (le_ix (lv 2) le_int) (le_fld Z.a_last_day (lv 0)))) (lss_one ls_never) lss_nil) (lss_cons (ls_expr (le_call F_check_known (hr.mono (by decide)) Z.g_check_known Z.k_check_known (la_cons (le_ix (lv 2) le_int) (la_cons (le_meth0 (lv 0) Z.c_Book Z.m_Book_versions F_Book_versions (hr.mono (by decide))) la_nil)))) (lss_one ls_retN))) lss_nil) (lss_one (ls_for PySem.PassesOwn.never rfl (li_tup (le_slice (lv 2) (lo_some le_int) lo_no)) (lg_name 3 sc_check_claim.nd) (lss_one (ls_expr (le_call F_check_known (hr.mono (by decide)) Z.g_check_known Z.k_check_known (la_cons (lv 3) (la_cons (le_meth0 (lv 0) Z.c_Book Z.m_Book_versions F_Book_versions (hr.mono (by decide))) la_nil))))))))))))
abbrev N_check_claims : List Str := ["book", "claims", "claim"]
theorem sc_check_claims : FnScope N_check_claims ["book", "claims"] (defScope (top 47)) := ⟨rfl, rfl, rfl, by decide +kernel, rfl, by decide +kernel, by decide +kernel⟩
def s_check_claims (K : PySem.W.Frag) (a : Ad) (T_check_claim : PT1) : SS := sFor (iLst (sVar 1)) (gN 2) (sDrop (sCall T_check_claim (aCons (sVar 0) (aCons (sVar 2) (aNil)))))
theorem b_check_claims {P : Program} {w : World} {K : PySem.W.Frag} {mg : Str → Option Value} {base : Heap} {a : Ad} {T_check_claim : PT1} (Z : Tx P w K mg a) (F_check_claim : FnQ false P w K mg base 4 (a.g "check_claim") T_check_claim) : Body false P w K mg base 4 N_check_claims "check_claims" (defScope (top 47)) (a.g "check_claims") (defBody (top 47)) (s_check_claims K a T_check_claim) := by
  intro cdv A outer st H E hr hg
  exact (lss_one (ls_for PySem.PassesOwn.never rfl (li_list (lv 1)) (lg_name 2 sc_check_claims.nd) (lss_one (ls_expr (le_call F_check_claim (hr.mono (by decide)) Z.g_check_claim Z.k_check_claim (la_cons (lv 0) (la_cons (lv 2) la_nil)))))))
abbrev N_names_refused : List Str := ["names", "most"]
theorem sc_names_refused : FnScope N_names_refused ["names", "most"] (defScope (top 50)) := ⟨rfl, rfl, rfl, by decide +kernel, rfl, by decide +kernel, by decide +kernel⟩
def s_names_refused (K : PySem.W.Frag) (a : Ad) (T_check_names : PT1) : SS := sSeq (sDrop (sCall T_check_names (aCons (sVar 0) (aCons (sVar 1) (aNil))))) (sRet (sC (.bl false)))
theorem b_names_refused {P : Program} {w : World} {K : PySem.W.Frag} {mg : Str → Option Value} {base : Heap} {a : Ad} {T_check_names : PT1} (Z : Tx P w K mg a) (F_check_names : FnQ false P w K mg base 3 (a.g "check_names") T_check_names) : Body false P w K mg base 3 N_names_refused "names_refused" (defScope (top 50)) (a.g "names_refused") (defBody (top 50)) (s_names_refused K a T_check_names) := by
  intro cdv A outer st H E hr hg
  exact (lss_cons (ls_try (lss_one (ls_expr (le_call F_check_names (hr.mono (by decide)) Z.g_check_names Z.k_check_names (la_cons (lv 0) (la_cons (lv 1) la_nil)))))) (lss_one (ls_ret le_bl)))
abbrev N_Book_init : List Str := ["self", "people", "versions", "last"]
theorem sc_Book_init : FnScope N_Book_init ["self", "people", "versions", "last"] (defScope (inClass (top 51) 9)) := ⟨rfl, rfl, rfl, by decide +kernel, rfl, by decide +kernel, by decide +kernel⟩
def s_Book_init (K : PySem.W.Frag) (a : Ad) (T_check_names : PT1) : SS := sSeq (sDrop (sCall T_check_names (aCons (sVar 1) (aCons (sCVal (a.g "Book") (.int 8) (sC (.ref (a.g "Book")))) (aNil))))) (sSeq (sDrop (sCall T_check_names (aCons (sVar 2) (aCons (sCVal (a.g "Book") (.int 3) (sC (.ref (a.g "Book")))) (aNil))))) (sSeq (sIf (sNot (sTest (sChain rhoLe rhoLe (sC (.int 1)) (sVar 3) (sCVal (a.g "Book") (.int 30) (sC (.ref (a.g "Book"))))))) (sNever) (sNext)) (sSeq (sFldSet (GBook a) "last_day" (sVar 0) (sVar 3)) (sSeq (sFldSet (GBook a) "_people" (sVar 0) (sBlt rhoList (aCons (sVar 1) (aNil)))) (sSeq (sFldSet (GBook a) "_versions" (sVar 0) (sBlt rhoList (aCons (sVar 2) (aNil)))) (sSeq (sFldSet (GBook a) "_meetings" (sVar 0) (sLstM (aNil))) (sSeq (sFldSet (GBook a) "_turns" (sVar 0) (sLstM (aNil))) (sSeq (sFldSet (GBook a) "_facts" (sVar 0) (sLstM (aNil))) (sSeq (sFldSet (GBook a) "_limits" (sVar 0) (sTup (aCons (sC (.int 1)) (aCons (sC .non) (aCons (sC .non) (aCons (sC .non) (aNil))))))) (sFldSet (GBook a) "_past" (sVar 0) (sLstM (aNil))))))))))))
theorem b_Book_init {P : Program} {w : World} {K : PySem.W.Frag} {mg : Str → Option Value} {base : Heap} {a : Ad} {T_check_names : PT1} (Z : Tx P w K mg a) (F_check_names : FnQ false P w K mg base 3 (a.g "check_names") T_check_names) : Body false P w K mg base 3 N_Book_init "Book.__init__" (defScope (inClass (top 51) 9)) (a.m "Book" "__init__") (defBody (inClass (top 51) 9)) (s_Book_init K a T_check_names) := by
  intro cdv A outer st H E hr hg
  exact (lss_cons (ls_expr (le_call F_check_names (hr.mono (by decide)) Z.g_check_names Z.k_check_names (la_cons (lv 1) (la_cons (le_cvalI Z.cv_MOST_PEOPLE (le_gref Z.g_Book)) la_nil)))) (lss_cons (ls_expr (le_call F_check_names (hr.mono (by decide)) Z.g_check_names Z.k_check_names (la_cons (lv 2) (la_cons (le_cvalI Z.cv_MOST_VERSIONS (le_gref Z.g_Book)) la_nil)))) (lss_cons (ls_if (lt_not (lt_chain lo_le lo_le le_int (lv 3) (le_cvalI Z.cv_LAST_DAY (le_gref Z.g_Book)))) (lss_one ls_never) lss_nil) (lss_cons (ls_fld Z.a_last_day (lv 0) (lv 3)) (lss_cons (ls_fld Z.a__people (lv 0) (le_bltT lc_list Z.f_list bt_list (la_cons (lv 1) la_nil))) (lss_cons (ls_fld Z.a__versions (lv 0) (le_bltT lc_list Z.f_list bt_list (la_cons (lv 2) la_nil))) (lss_cons (ls_fld Z.a__meetings (lv 0) (le_lstM la_nil)) (lss_cons (ls_fld Z.a__turns (lv 0) (le_lstM la_nil)) (lss_cons (ls_fld Z.a__facts (lv 0) (le_lstM la_nil)) (lss_cons (ls_fld Z.a__limits (lv 0) (le_tup (la_cons le_int (la_cons le_non (la_cons le_non (la_cons le_non la_nil)))))) (lss_one (ls_fld Z.a__past (lv 0) (le_lstM la_nil)))))))))))))
abbrev N_Book_read : List Str := ["cls", "text", "lines", "people", "versions", "last", "book", "at", "line"]
theorem sc_Book_read : FnScope N_Book_read ["cls", "text"] (defScope (inClass (top 51) 11)) := ⟨rfl, rfl, rfl, by decide +kernel, rfl, by decide +kernel, by decide +kernel⟩
def s_Book_read (K : PySem.W.Frag) (a : Ad) (T_read_names T_read_last T_names_refused T_Book_init T_Book__do T_read_line : PT1) : SS := sSeq (sSet 2 (sBM isStrD rhoSplit (sVar 1) (aCons (sC (.str "\n")) (aNil)))) (sSeq (sSet 3 (sCall T_read_names (aCons (sBin rhoIx (sVar 2) (sC (.int 0))) (aCons (sC (.str "people")) (aNil))))) (sSeq (sIf (sTest (sBin (rhoIsN false) (sVar 3) (sC .non))) (sNever) (sNext)) (sSeq (sSet 4 (sC .non)) (sSeq (sIf (sTest (sBin rhoGt (sBlt rhoLen (aCons (sVar 2) (aNil))) (sC (.int 1)))) (sSet 4 (sCall T_read_names (aCons (sBin rhoIx (sVar 2) (sC (.int 1))) (aCons (sC (.str "versions")) (aNil))))) (sNext)) (sSeq (sIf (sTest (sBin (rhoIsN false) (sVar 4) (sC .non))) (sNever) (sNext)) (sSeq (sSet 5 (sC .non)) (sSeq (sIf (sTest (sBin rhoGt (sBlt rhoLen (aCons (sVar 2) (aNil))) (sC (.int 2)))) (sSet 5 (sCall T_read_last (aCons (sBin rhoIx (sVar 2) (sC (.int 2))) (aNil)))) (sNext)) (sSeq (sIf (sTest (sBin (rhoIsN false) (sVar 5) (sC .non))) (sNever) (sNext)) (sSeq (sIf (sTest (sCall T_names_refused (aCons (sVar 3) (aCons (sCVal (a.g "Book") (.int 8) (sVar 0)) (aNil))))) (sNever) (sNext)) (sSeq (sIf (sTest (sCall T_names_refused (aCons (sVar 4) (aCons (sCVal (a.g "Book") (.int 3) (sVar 0)) (aNil))))) (sNever) (sNext)) (sSeq (sIf (sNot (sTest (sChain rhoLe rhoLe (sC (.int 1)) (sVar 5) (sCVal (a.g "Book") (.int 30) (sVar 0))))) (sNever) (sNext)) (sSeq (sSet 6 (sMakeK (a.g "Book") 3 1 T_Book_init (sVar 0) (aCons (sVar 3) (aCons (sVar 4) (aNil))) (aCons (sVar 5) (aNil)))) (sSeq (sFor (iEnumL (aCons (sSl (sVar 2) (oSome (sC (.int 3))) (oNo)) (aNil))) (gTuple 2 (gsCons (gN 7) (gsCons (gN 8) (gsNil)))) (sDrop (sMeth (a.g "Book") "_do" T_Book__do (sVar 6) (aCons (sCall T_read_line (aCons (sVar 8) (aNil))) (aNil))))) (sSeq (sDrop (sClear (sFld (GBook a) "_past" (sVar 6)))) (sRet (sVar 6))))))))))))))))
theorem b_Book_read {P : Program} {w : World} {K : PySem.W.Frag} {mg : Str → Option Value} {base : Heap} {a : Ad} {T_read_names T_read_last T_names_refused T_Book_init T_Book__do T_read_line : PT1} (Z : Tx P w K mg a) (F_read_names : FnQ false P w K mg base 3 (a.g "read_names") T_read_names) (F_read_last : FnQ false P w K mg base 3 (a.g "read_last") T_read_last) (F_names_refused : FnQ false P w K mg base 4 (a.g "names_refused") T_names_refused) (F_Book_init : FnK P w K mg base 4 (a.m "Book" "__init__") 3 ["last"] T_Book_init) (F_Book__do : FnQ false P w K mg base 7 (a.m "Book" "_do") T_Book__do) (F_read_line : FnQ false P w K mg base 6 (a.g "read_line") T_read_line) : Body false P w K mg base 7 N_Book_read "Book.read" (defScope (inClass (top 51) 11)) (a.m "Book" "read") (defBody (inClass (top 51) 11)) (s_Book_read K a T_read_names T_read_last T_names_refused T_Book_init T_Book__do T_read_line) := by
  intro cdv A outer st H E hr hg
  exact (lss_cons (ls_set 2 sc_Book_read.nd (le_split (lv 1) (la_cons le_str la_nil))) (lss_cons (ls_set 3 sc_Book_read.nd (le_call F_read_names (hr.mono (by decide)) Z.g_read_names Z.k_read_names (la_cons (le_ix (lv 2) le_int) (la_cons le_str la_nil)))) (lss_cons (ls_if (lt_cmp lo_is (lv 3) le_non) (lss_one ls_never) lss_nil) (lss_cons (ls_set 4 sc_Book_read.nd le_non) (lss_cons (ls_if (lt_cmp lo_gt (le_blt lc_len Z.f_len bt_len (la_cons (lv 2) la_nil)) le_int) (lss_one (ls_set 4 sc_Book_read.nd (le_call F_read_names (hr.mono (by decide)) Z.g_read_names Z.k_read_names (la_cons (le_ix (lv 2) le_int) (la_cons le_str la_nil))))) lss_nil) (lss_cons (ls_if (lt_cmp lo_is (lv 4) le_non) (lss_one ls_never) lss_nil) (lss_cons (ls_set 5 sc_Book_read.nd le_non) (lss_cons (ls_if (lt_cmp lo_gt (le_blt lc_len Z.f_len bt_len (la_cons (lv 2) la_nil)) le_int) (lss_one (ls_set 5 sc_Book_read.nd (le_call F_read_last (hr.mono (by decide)) Z.g_read_last Z.k_read_last (la_cons (le_ix (lv 2) le_int) la_nil)))) lss_nil) (lss_cons (ls_if (lt_cmp lo_is (lv 5) le_non) (lss_one ls_never) lss_nil) (lss_cons (ls_if (lt_val (le_call F_names_refused (hr.mono (by decide)) Z.g_names_refused Z.k_names_refused (la_cons (lv 3) (la_cons (le_cvalI Z.cv_MOST_PEOPLE (lv 0)) la_nil)))) (lss_one ls_never) lss_nil) (lss_cons (ls_if (lt_val (le_call F_names_refused (hr.mono (by decide)) Z.g_names_refused Z.k_names_refused (la_cons (lv 4) (la_cons (le_cvalI Z.cv_MOST_VERSIONS (lv 0)) la_nil)))) (lss_one ls_never) lss_nil) (lss_cons (ls_if (lt_not (lt_chain lo_le lo_le le_int (lv 5) (le_cvalI Z.cv_LAST_DAY (lv 0)))) (lss_one ls_never) lss_nil) (lss_cons (ls_set 6 sc_Book_read.nd (le_makeK (ks := ["last"]) (lv 0) Z.mk_Book F_Book_init (hr.mono (by decide)) (la_cons (lv 3) (la_cons (lv 4) la_nil)) (lk_cons (lv 5) lk_nil))) (lss_cons (ls_for PySem.PassesOwn.never rfl (li_enumL rfl Z.f_enumerate (la_cons (le_slice (lv 2) (lo_some le_int) lo_no) la_nil)) (lg_tup rfl (lgs_cons (lg_name 7 sc_Book_read.nd) (lgs_cons (lg_name 8 sc_Book_read.nd) lgs_nil))) (lss_one (ls_try (lss_one (ls_expr (le_meth (lv 6) Z.c_Book Z.m_Book__do F_Book__do (hr.mono (by decide)) (la_cons (le_call F_read_line (hr.mono (by decide)) Z.g_read_line Z.k_read_line (la_cons (lv 8) la_nil)) la_nil))))))) (lss_cons (ls_expr (le_clear (le_fld Z.a__past (lv 6)))) (lss_one (ls_ret (lv 6))))))))))))))))))
abbrev N_Book_begin_limit : List Str := ["self"]
theorem sc_Book_begin_limit : FnScope N_Book_begin_limit ["self"] (defScope (inClass (top 51) 12)) := ⟨rfl, rfl, rfl, by decide +kernel, rfl, by decide +kernel, by decide +kernel⟩
def s_Book_begin_limit (K : PySem.W.Frag) (a : Ad) : SS := sRet (sBin rhoIx (sFld (GBook a) "_limits" (sVar 0)) (sC (.int 0)))
theorem b_Book_begin_limit {P : Program} {w : World} {K : PySem.W.Frag} {mg : Str → Option Value} {base : Heap} {a : Ad} (Z : Tx P w K mg a)  : Body false P w K mg base 1 N_Book_begin_limit "Book.begin_limit" (defScope (inClass (top 51) 12)) (a.m "Book" "begin_limit") (defBody (inClass (top 51) 12)) (s_Book_begin_limit K a) := by
  intro cdv A outer st H E hr hg
  exact (lss_one (ls_ret (le_ix (le_fld Z.a__limits (lv 0)) le_int)))
abbrev N_Book_people : List Str := ["self"]
theorem sc_Book_people : FnScope N_Book_people ["self"] (defScope (inClass (top 51) 14)) := ⟨rfl, rfl, rfl, by decide +kernel, rfl, by decide +kernel, by decide +kernel⟩
def s_Book_people (K : PySem.W.Frag) (a : Ad) : SS := sRet (sBlt rhoList (aCons (sFld (GBook a) "_people" (sVar 0)) (aNil)))
theorem b_Book_people {P : Program} {w : World} {K : PySem.W.Frag} {mg : Str → Option Value} {base : Heap} {a : Ad} (Z : Tx P w K mg a)  : Body false P w K mg base 1 N_Book_people "Book.people" (defScope (inClass (top 51) 14)) (a.m "Book" "people") (defBody (inClass (top 51) 14)) (s_Book_people K a) := by
  intro cdv A outer st H E hr hg
  exact (lss_one (ls_ret (le_bltT lc_list Z.f_list bt_list (la_cons (le_fld Z.a__people (lv 0)) la_nil))))
abbrev N_Book_versions : List Str := ["self"]
theorem sc_Book_versions : FnScope N_Book_versions ["self"] (defScope (inClass (top 51) 15)) := ⟨rfl, rfl, rfl, by decide +kernel, rfl, by decide +kernel, by decide +kernel⟩
def s_Book_versions (K : PySem.W.Frag) (a : Ad) : SS := sRet (sBlt rhoList (aCons (sFld (GBook a) "_versions" (sVar 0)) (aNil)))
theorem b_Book_versions {P : Program} {w : World} {K : PySem.W.Frag} {mg : Str → Option Value} {base : Heap} {a : Ad} (Z : Tx P w K mg a)  : Body false P w K mg base 1 N_Book_versions "Book.versions" (defScope (inClass (top 51) 15)) (a.m "Book" "versions") (defBody (inClass (top 51) 15)) (s_Book_versions K a) := by
  intro cdv A outer st H E hr hg
  exact (lss_one (ls_ret (le_bltT lc_list Z.f_list bt_list (la_cons (le_fld Z.a__versions (lv 0)) la_nil))))
abbrev N_Book_meetings : List Str := ["self"]
theorem sc_Book_meetings : FnScope N_Book_meetings ["self"] (defScope (inClass (top 51) 16)) := ⟨rfl, rfl, rfl, by decide +kernel, rfl, by decide +kernel, by decide +kernel⟩
def s_Book_meetings (K : PySem.W.Frag) (a : Ad) : SS := sRet (sBlt rhoList (aCons (sFld (GBook a) "_meetings" (sVar 0)) (aNil)))
theorem b_Book_meetings {P : Program} {w : World} {K : PySem.W.Frag} {mg : Str → Option Value} {base : Heap} {a : Ad} (Z : Tx P w K mg a)  : Body false P w K mg base 1 N_Book_meetings "Book.meetings" (defScope (inClass (top 51) 16)) (a.m "Book" "meetings") (defBody (inClass (top 51) 16)) (s_Book_meetings K a) := by
  intro cdv A outer st H E hr hg
  exact (lss_one (ls_ret (le_bltT lc_list Z.f_list bt_list (la_cons (le_fld Z.a__meetings (lv 0)) la_nil))))
abbrev N_Book_turns : List Str := ["self"]
theorem sc_Book_turns : FnScope N_Book_turns ["self"] (defScope (inClass (top 51) 17)) := ⟨rfl, rfl, rfl, by decide +kernel, rfl, by decide +kernel, by decide +kernel⟩
def s_Book_turns (K : PySem.W.Frag) (a : Ad) : SS := sRet (sBlt rhoList (aCons (sFld (GBook a) "_turns" (sVar 0)) (aNil)))
theorem b_Book_turns {P : Program} {w : World} {K : PySem.W.Frag} {mg : Str → Option Value} {base : Heap} {a : Ad} (Z : Tx P w K mg a)  : Body false P w K mg base 1 N_Book_turns "Book.turns" (defScope (inClass (top 51) 17)) (a.m "Book" "turns") (defBody (inClass (top 51) 17)) (s_Book_turns K a) := by
  intro cdv A outer st H E hr hg
  exact (lss_one (ls_ret (le_bltT lc_list Z.f_list bt_list (la_cons (le_fld Z.a__turns (lv 0)) la_nil))))
abbrev N_Book_facts : List Str := ["self"]
theorem sc_Book_facts : FnScope N_Book_facts ["self"] (defScope (inClass (top 51) 18)) := ⟨rfl, rfl, rfl, by decide +kernel, rfl, by decide +kernel, by decide +kernel⟩
def s_Book_facts (K : PySem.W.Frag) (a : Ad) : SS := sRet (sBlt rhoList (aCons (sFld (GBook a) "_facts" (sVar 0)) (aNil)))
theorem b_Book_facts {P : Program} {w : World} {K : PySem.W.Frag} {mg : Str → Option Value} {base : Heap} {a : Ad} (Z : Tx P w K mg a)  : Body false P w K mg base 1 N_Book_facts "Book.facts" (defScope (inClass (top 51) 18)) (a.m "Book" "facts") (defBody (inClass (top 51) 18)) (s_Book_facts K a) := by
  intro cdv A outer st H E hr hg
  exact (lss_one (ls_ret (le_bltT lc_list Z.f_list bt_list (la_cons (le_fld Z.a__facts (lv 0)) la_nil))))
abbrev N_Book_limits : List Str := ["self"]
theorem sc_Book_limits : FnScope N_Book_limits ["self"] (defScope (inClass (top 51) 19)) := ⟨rfl, rfl, rfl, by decide +kernel, rfl, by decide +kernel, by decide +kernel⟩
def s_Book_limits (K : PySem.W.Frag) (a : Ad) : SS := sRet (sFld (GBook a) "_limits" (sVar 0))
theorem b_Book_limits {P : Program} {w : World} {K : PySem.W.Frag} {mg : Str → Option Value} {base : Heap} {a : Ad} (Z : Tx P w K mg a)  : Body false P w K mg base 1 N_Book_limits "Book.limits" (defScope (inClass (top 51) 19)) (a.m "Book" "limits") (defBody (inClass (top 51) 19)) (s_Book_limits K a) := by
  intro cdv A outer st H E hr hg
  exact (lss_one (ls_ret (le_fld Z.a__limits (lv 0))))
abbrev N_Book_len : List Str := ["self"]
theorem sc_Book_len : FnScope N_Book_len ["self"] (defScope (inClass (top 51) 20)) := ⟨rfl, rfl, rfl, by decide +kernel, rfl, by decide +kernel, by decide +kernel⟩
def s_Book_len (K : PySem.W.Frag) (a : Ad) : SS := sRet (sBlt rhoLen (aCons (sFld (GBook a) "_facts" (sVar 0)) (aNil)))
theorem b_Book_len {P : Program} {w : World} {K : PySem.W.Frag} {mg : Str → Option Value} {base : Heap} {a : Ad} (Z : Tx P w K mg a)  : Body false P w K mg base 1 N_Book_len "Book.__len__" (defScope (inClass (top 51) 20)) (a.m "Book" "__len__") (defBody (inClass (top 51) 20)) (s_Book_len K a) := by
  intro cdv A outer st H E hr hg
  exact (lss_one (ls_ret (le_blt lc_len Z.f_len bt_len (la_cons (le_fld Z.a__facts (lv 0)) la_nil))))
abbrev N_Book_contains : List Str := ["self", "claim", "fact", "claims"]
theorem sc_Book_contains : FnScope N_Book_contains ["self", "claim"] (defScope (inClass (top 51) 21)) := ⟨rfl, rfl, rfl, by decide +kernel, rfl, by decide +kernel, by decide +kernel⟩
def s_Book_contains (K : PySem.W.Frag) (a : Ad) (T_Clause_claims T_Claim_eq : PT1) : SS := sSeq (sFor (iLst (sFld (GBook a) "_facts" (sVar 0))) (gN 2) (sSeq (sSet 3 (sMeth (a.g "Clause") "claims" T_Clause_claims (sVar 2) aNil)) (sIf (sAnd (sTest (sBin (rhoEq false) (sBlt rhoLen (aCons (sVar 3) (aNil))) (sC (.int 1)))) (sTest (sBin (rhoEqO (GEq a) T_Claim_eq) (sBin rhoIx (sVar 3) (sC (.int 0))) (sVar 1)))) (sRet (sC (.bl true))) (sNext)))) (sRet (sC (.bl false)))
theorem b_Book_contains {P : Program} {w : World} {K : PySem.W.Frag} {mg : Str → Option Value} {base : Heap} {a : Ad} {T_Clause_claims T_Claim_eq : PT1} (Z : Tx P w K mg a) (F_Clause_claims : FnQ false P w K mg base 2 (a.m "Clause" "claims") T_Clause_claims) (F_Claim_eq : FnQ false P w K mg base 2 (a.m "Claim" "__eq__") T_Claim_eq) : Body false P w K mg base 2 N_Book_contains "Book.__contains__" (defScope (inClass (top 51) 21)) (a.m "Book" "__contains__") (defBody (inClass (top 51) 21)) (s_Book_contains K a T_Clause_claims T_Claim_eq) := by
  intro cdv A outer st H E hr hg
  exact (lss_cons (ls_for PySem.PassesOwn.never rfl (li_list (le_fld Z.a__facts (lv 0))) (lg_name 2 sc_Book_contains.nd) (lss_cons (ls_set 3 sc_Book_contains.nd (le_meth0 (lv 2) Z.c_Clause Z.m_Clause_claims F_Clause_claims (hr.mono (by decide)))) (lss_one (ls_if (lw_pt (lw_and (lt_cmp (lo_eq (Room.u64 hr)) (le_blt lc_len Z.f_len bt_len (la_cons (lv 3) la_nil)) le_int) (lw_and1 (lt_cmp (lo_eqO Z.eqo F_Claim_eq (hr.mono (by decide))) (le_ix (lv 3) le_int) (lv 1))))) (lss_one (ls_ret le_bl)) lss_nil)))) (lss_one (ls_ret le_bl)))
abbrev N_Book__keep : List Str := ["self", "state"]
theorem sc_Book__keep : FnScope N_Book__keep ["self"] (defScope (inClass (top 51) 22)) := ⟨rfl, rfl, rfl, by decide +kernel, rfl, by decide +kernel, by decide +kernel⟩
def s_Book__keep (K : PySem.W.Frag) (a : Ad) : SS := sSeq (sSet 1 (sTup (aCons (sBlt rhoList (aCons (sFld (GBook a) "_meetings" (sVar 0)) (aNil))) (aCons (sBlt rhoList (aCons (sFld (GBook a) "_turns" (sVar 0)) (aNil))) (aCons (sBlt rhoList (aCons (sFld (GBook a) "_facts" (sVar 0)) (aNil))) (aCons (sFld (GBook a) "_limits" (sVar 0)) (aNil))))))) (sDrop (sBM isLstM rhoApp (sFld (GBook a) "_past" (sVar 0)) (aCons (sVar 1) (aNil))))
theorem b_Book__keep {P : Program} {w : World} {K : PySem.W.Frag} {mg : Str → Option Value} {base : Heap} {a : Ad} (Z : Tx P w K mg a)  : Body false P w K mg base 1 N_Book__keep "Book._keep" (defScope (inClass (top 51) 22)) (a.m "Book" "_keep") (defBody (inClass (top 51) 22)) (s_Book__keep K a) := by
  intro cdv A outer st H E hr hg
  exact (lss_cons (ls_set 1 sc_Book__keep.nd (le_tup (la_cons (le_bltT lc_list Z.f_list bt_list (la_cons (le_fld Z.a__meetings (lv 0)) la_nil)) (la_cons (le_bltT lc_list Z.f_list bt_list (la_cons (le_fld Z.a__turns (lv 0)) la_nil)) (la_cons (le_bltT lc_list Z.f_list bt_list (la_cons (le_fld Z.a__facts (lv 0)) la_nil)) (la_cons (le_fld Z.a__limits (lv 0)) la_nil)))))) (lss_one (ls_expr (le_append (le_fld Z.a__past (lv 0)) (la_cons (lv 1) la_nil)))))
abbrev N_Book_meet : List Str := ["self", "day", "first", "second", "sure", "unsure", "row"]
theorem sc_Book_meet : FnScope N_Book_meet ["self", "day", "first", "second", "sure"] (defScope (inClass (top 51) 23)) := ⟨rfl, rfl, rfl, by decide +kernel, rfl, by decide +kernel, by decide +kernel⟩
def s_Book_meet (K : PySem.W.Frag) (a : Ad) (T_check_known T_Book__keep : PT1) : SS := sSeq (sDrop (sCall T_check_known (aCons (sVar 2) (aCons (sFld (GBook a) "_people" (sVar 0)) (aNil))))) (sSeq (sDrop (sCall T_check_known (aCons (sVar 3) (aCons (sFld (GBook a) "_people" (sVar 0)) (aNil))))) (sSeq (sIf (sTest (sBin (rhoEq false) (sVar 2) (sVar 3))) (sNever) (sNext)) (sSeq (sIf (sNot (sTest (sChain rhoLe rhoLe (sC (.int 1)) (sVar 1) (sFld (GBook a) "last_day" (sVar 0))))) (sNever) (sNext)) (sSeq (sSet 5 (sC (.int 0))) (sSeq (sFor (iLst (sFld (GBook a) "_meetings" (sVar 0))) (gN 6) (sSeq (sIf (sAnd (sTest (sBin (rhoEq false) (sBin rhoIx (sVar 6) (sC (.int 0))) (sVar 1))) (sAnd (sTest (sBin (rhoIn false) (sVar 2) (sSl (sVar 6) (oSome (sC (.int 1))) (oSome (sC (.int 3)))))) (sTest (sBin (rhoIn false) (sVar 3) (sSl (sVar 6) (oSome (sC (.int 1))) (oSome (sC (.int 3)))))))) (sNever) (sNext)) (sIf (sNot (sTest (sBin rhoIx (sVar 6) (sC (.int 3))))) (sAugI (fun a b => a + b) 5 (sC (.int 1))) (sNext)))) (sSeq (sIf (sTest (sBin rhoGe (sBlt rhoLen (aCons (sFld (GBook a) "_meetings" (sVar 0)) (aNil))) (sCVal (a.g "Book") (.int 24) (sC (.ref (a.g "Book")))))) (sNever) (sNext)) (sSeq (sIf (sAnd (sNot (sTest (sVar 4))) (sTest (sBin rhoGe (sVar 5) (sCVal (a.g "Book") (.int 6) (sC (.ref (a.g "Book"))))))) (sNever) (sNext)) (sSeq (sDrop (sMeth (a.g "Book") "_keep" T_Book__keep (sVar 0) aNil)) (sSeq (sDrop (sBM isLstM rhoApp (sFld (GBook a) "_meetings" (sVar 0)) (aCons (sTup (aCons (sVar 1) (aCons (sVar 2) (aCons (sVar 3) (aCons (sVar 4) (aNil)))))) (aNil)))) (sRet (sBin rhoSub (sBlt rhoLen (aCons (sFld (GBook a) "_meetings" (sVar 0)) (aNil))) (sC (.int 1)))))))))))))
theorem b_Book_meet {P : Program} {w : World} {K : PySem.W.Frag} {mg : Str → Option Value} {base : Heap} {a : Ad} {T_check_known T_Book__keep : PT1} (Z : Tx P w K mg a) (F_check_known : FnQ false P w K mg base 2 (a.g "check_known") T_check_known) (F_Book__keep : FnQ false P w K mg base 2 (a.m "Book" "_keep") T_Book__keep) : Body false P w K mg base 2 N_Book_meet "Book.meet" (defScope (inClass (top 51) 23)) (a.m "Book" "meet") (defBody (inClass (top 51) 23)) (s_Book_meet K a T_check_known T_Book__keep) := by
  intro cdv A outer st H E hr hg
  exact (lss_cons (ls_expr (le_call F_check_known (hr.mono (by decide)) Z.g_check_known Z.k_check_known (la_cons (lv 2) (la_cons (le_fld Z.a__people (lv 0)) la_nil)))) (lss_cons (ls_expr (le_call F_check_known (hr.mono (by decide)) Z.g_check_known Z.k_check_known (la_cons (lv 3) (la_cons (le_fld Z.a__people (lv 0)) la_nil)))) (lss_cons (ls_if (lt_cmp (lo_eq (Room.u64 hr)) (lv 2) (lv 3)) (lss_one ls_never) lss_nil) (lss_cons (ls_if (lt_not (lt_chain lo_le lo_le le_int (lv 1) (le_fld Z.a_last_day (lv 0)))) (lss_one ls_never) lss_nil) (lss_cons (ls_set 5 sc_Book_meet.nd le_int) (lss_cons (ls_for PySem.PassesOwn.never rfl (li_list (le_fld Z.a__meetings (lv 0))) (lg_name 6 sc_Book_meet.nd) (lss_cons (ls_if (lw_pt (lw_and (lt_cmp (lo_eq (Room.u64 hr)) (le_ix (lv 6) le_int) (lv 1)) (lw_and (lt_cmp (lo_in (Room.u65 hr)) (lv 2) (le_slice (lv 6) (lo_some le_int) (lo_some le_int))) (lw_and1 (lt_cmp (lo_in (Room.u65 hr)) (lv 3) (le_slice (lv 6) (lo_some le_int) (lo_some le_int))))))) (lss_one ls_never) lss_nil) (lss_one (ls_if (lt_not (lt_val (le_ix (lv 6) le_int))) (lss_one (ls_augadd 5 sc_Book_meet.nd le_int)) lss_nil)))) (lss_cons (ls_if (lt_cmp lo_ge (le_blt lc_len Z.f_len bt_len (la_cons (le_fld Z.a__meetings (lv 0)) la_nil)) (le_cvalI Z.cv_MOST_MEETINGS (le_gref Z.g_Book))) (lss_one ls_never) lss_nil) (lss_cons (ls_if (lw_pt (lw_and (lt_not (lt_val (lv 4))) (lw_and1 (lt_cmp lo_ge (lv 5) (le_cvalI Z.cv_MOST_UNSURE (le_gref Z.g_Book)))))) (lss_one ls_never) lss_nil) (lss_cons (ls_expr (le_meth0 (lv 0) Z.c_Book Z.m_Book__keep F_Book__keep (hr.mono (by decide)))) (lss_cons (ls_expr (le_append (le_fld Z.a__meetings (lv 0)) (la_cons (le_tup (la_cons (lv 1) (la_cons (lv 2) (la_cons (lv 3) (la_cons (lv 4) la_nil))))) la_nil))) (lss_one (ls_ret (le_bin lo_sub (le_blt lc_len Z.f_len bt_len (la_cons (le_fld Z.a__meetings (lv 0)) la_nil)) le_int)))))))))))))
abbrev N_Book_may_turn : List Str := ["self", "person", "old", "new"]
theorem sc_Book_may_turn : FnScope N_Book_may_turn ["self", "person", "old", "new"] (defScope (inClass (top 51) 24)) := ⟨rfl, rfl, rfl, by decide +kernel, rfl, by decide +kernel, by decide +kernel⟩
def s_Book_may_turn (K : PySem.W.Frag) (a : Ad) (T_check_known T_Book__keep : PT1) : SS := sSeq (sDrop (sCall T_check_known (aCons (sVar 1) (aCons (sFld (GBook a) "_people" (sVar 0)) (aNil))))) (sSeq (sDrop (sCall T_check_known (aCons (sVar 2) (aCons (sFld (GBook a) "_versions" (sVar 0)) (aNil))))) (sSeq (sDrop (sCall T_check_known (aCons (sVar 3) (aCons (sFld (GBook a) "_versions" (sVar 0)) (aNil))))) (sSeq (sIf (sTest (sBin (rhoEq false) (sVar 2) (sVar 3))) (sNever) (sNext)) (sSeq (sIf (sTest (sBin (rhoIn false) (sTup (aCons (sVar 1) (aCons (sVar 2) (aCons (sVar 3) (aNil))))) (sFld (GBook a) "_turns" (sVar 0)))) (sNever) (sNext)) (sSeq (sIf (sTest (sBin rhoGe (sBlt rhoLen (aCons (sFld (GBook a) "_turns" (sVar 0)) (aNil))) (sCVal (a.g "Book") (.int 6) (sC (.ref (a.g "Book")))))) (sNever) (sNext)) (sSeq (sDrop (sMeth (a.g "Book") "_keep" T_Book__keep (sVar 0) aNil)) (sSeq (sDrop (sBM isLstM rhoApp (sFld (GBook a) "_turns" (sVar 0)) (aCons (sTup (aCons (sVar 1) (aCons (sVar 2) (aCons (sVar 3) (aNil))))) (aNil)))) (sRet (sBlt rhoLen (aCons (sFld (GBook a) "_turns" (sVar 0)) (aNil)))))))))))
theorem b_Book_may_turn {P : Program} {w : World} {K : PySem.W.Frag} {mg : Str → Option Value} {base : Heap} {a : Ad} {T_check_known T_Book__keep : PT1} (Z : Tx P w K mg a) (F_check_known : FnQ false P w K mg base 2 (a.g "check_known") T_check_known) (F_Book__keep : FnQ false P w K mg base 2 (a.m "Book" "_keep") T_Book__keep) : Body false P w K mg base 2 N_Book_may_turn "Book.may_turn" (defScope (inClass (top 51) 24)) (a.m "Book" "may_turn") (defBody (inClass (top 51) 24)) (s_Book_may_turn K a T_check_known T_Book__keep) := by
  intro cdv A outer st H E hr hg
  exact (lss_cons (ls_expr (le_call F_check_known (hr.mono (by decide)) Z.g_check_known Z.k_check_known (la_cons (lv 1) (la_cons (le_fld Z.a__people (lv 0)) la_nil)))) (lss_cons (ls_expr (le_call F_check_known (hr.mono (by decide)) Z.g_check_known Z.k_check_known (la_cons (lv 2) (la_cons (le_fld Z.a__versions (lv 0)) la_nil)))) (lss_cons (ls_expr (le_call F_check_known (hr.mono (by decide)) Z.g_check_known Z.k_check_known (la_cons (lv 3) (la_cons (le_fld Z.a__versions (lv 0)) la_nil)))) (lss_cons (ls_if (lt_cmp (lo_eq (Room.u64 hr)) (lv 2) (lv 3)) (lss_one ls_never) lss_nil) (lss_cons (ls_if (lt_cmp (lo_in (Room.u65 hr)) (le_tup (la_cons (lv 1) (la_cons (lv 2) (la_cons (lv 3) la_nil)))) (le_fld Z.a__turns (lv 0))) (lss_one ls_never) lss_nil) (lss_cons (ls_if (lt_cmp lo_ge (le_blt lc_len Z.f_len bt_len (la_cons (le_fld Z.a__turns (lv 0)) la_nil)) (le_cvalI Z.cv_MOST_TURNS (le_gref Z.g_Book))) (lss_one ls_never) lss_nil) (lss_cons (ls_expr (le_meth0 (lv 0) Z.c_Book Z.m_Book__keep F_Book__keep (hr.mono (by decide)))) (lss_cons (ls_expr (le_append (le_fld Z.a__turns (lv 0)) (la_cons (le_tup (la_cons (lv 1) (la_cons (lv 2) (la_cons (lv 3) la_nil)))) la_nil))) (lss_one (ls_ret (le_blt lc_len Z.f_len bt_len (la_cons (le_fld Z.a__turns (lv 0)) la_nil))))))))))))
abbrev N_Book_fact : List Str := ["self", "claims", "parts", "wide", "fact"]
theorem sc_Book_fact : FnScope N_Book_fact ["self", "claims"] (defScope (inClass (top 51) 25)) := ⟨rfl, rfl, rfl, by decide +kernel, rfl, by decide +kernel, by decide +kernel⟩
def s_Book_fact (K : PySem.W.Frag) (a : Ad) (T_joined T_check_claims T_Clause_len T_Book__keep T_Clause_init : PT1) : SS := sSeq (sSet 2 (sCall T_joined (aCons (sVar 1) (aNil)))) (sSeq (sIf (sTest (sBin (rhoEq false) (sBlt rhoLen (aCons (sVar 2) (aNil))) (sC (.int 0)))) (sNever) (sNext)) (sSeq (sIf (sTest (sBin rhoGt (sBlt rhoLen (aCons (sVar 2) (aNil))) (sCVal (a.g "Book") (.int 3) (sC (.ref (a.g "Book")))))) (sNever) (sNext)) (sSeq (sDrop (sCall T_check_claims (aCons (sVar 0) (aCons (sVar 2) (aNil))))) (sSeq (sIf (sTest (sBin rhoGe (sBlt rhoLen (aCons (sFld (GBook a) "_facts" (sVar 0)) (aNil))) (sCVal (a.g "Book") (.int 16) (sC (.ref (a.g "Book")))))) (sNever) (sNext)) (sSeq (sSet 3 (sBlt rhoLen (aCons (sLc (iLst (sFld (GBook a) "_facts" (sVar 0))) (sTest (sBin rhoGt (sBlt (rhoLenO (GClause a) T_Clause_len) (aCons (sVar 4) (aNil))) (sC (.int 1)))) (sVar 4) 4) (aNil)))) (sSeq (sIf (sAnd (sTest (sBin rhoGt (sBlt rhoLen (aCons (sVar 2) (aNil))) (sC (.int 1)))) (sTest (sBin rhoGe (sVar 3) (sCVal (a.g "Book") (.int 4) (sC (.ref (a.g "Book"))))))) (sNever) (sNext)) (sSeq (sDrop (sMeth (a.g "Book") "_keep" T_Book__keep (sVar 0) aNil)) (sSeq (sDrop (sBM isLstM rhoApp (sFld (GBook a) "_facts" (sVar 0)) (aCons (sMakeS (a.g "Clause") T_Clause_init (aStar (sVar 2) aNil)) (aNil)))) (sRet (sBin rhoSub (sBlt rhoLen (aCons (sFld (GBook a) "_facts" (sVar 0)) (aNil))) (sC (.int 1))))))))))))
theorem b_Book_fact {P : Program} {w : World} {K : PySem.W.Frag} {mg : Str → Option Value} {base : Heap} {a : Ad} {T_joined T_check_claims T_Clause_len T_Book__keep T_Clause_init : PT1} (Z : Tx P w K mg a) (F_joined : FnQ false P w K mg base 3 (a.g "joined") T_joined) (F_check_claims : FnQ false P w K mg base 5 (a.g "check_claims") T_check_claims) (F_Clause_len : FnQ false P w K mg base 2 (a.m "Clause" "__len__") T_Clause_len) (F_Book__keep : FnQ false P w K mg base 2 (a.m "Book" "_keep") T_Book__keep) (F_Clause_init : FnQ false P w K mg base 2 (a.m "Clause" "__init__") T_Clause_init) : Body false P w K mg base 5 N_Book_fact "Book.fact" (defScope (inClass (top 51) 25)) (a.m "Book" "fact") (defBody (inClass (top 51) 25)) (s_Book_fact K a T_joined T_check_claims T_Clause_len T_Book__keep T_Clause_init) := by
  intro cdv A outer st H E hr hg
  exact (lss_cons (ls_set 2 sc_Book_fact.nd (le_call F_joined (hr.mono (by decide)) Z.g_joined Z.k_joined (la_cons (lv 1) la_nil))) (lss_cons (ls_if (lt_cmp (lo_eq (Room.u64 hr)) (le_blt lc_len Z.f_len bt_len (la_cons (lv 2) la_nil)) le_int) (lss_one ls_never) lss_nil) (lss_cons (ls_if (lt_cmp lo_gt (le_blt lc_len Z.f_len bt_len (la_cons (lv 2) la_nil)) (le_cvalI Z.cv_MOST_CLAIMS (le_gref Z.g_Book))) (lss_one ls_never) lss_nil) (lss_cons (ls_expr (le_call F_check_claims (hr.mono (by decide)) Z.g_check_claims Z.k_check_claims (la_cons (lv 0) (la_cons (lv 2) la_nil)))) (lss_cons (ls_if (lt_cmp lo_ge (le_blt lc_len Z.f_len bt_len (la_cons (le_fld Z.a__facts (lv 0)) la_nil)) (le_cvalI Z.cv_MOST_FACTS (le_gref Z.g_Book))) (lss_one ls_never) lss_nil) (lss_cons (ls_set 3 sc_Book_fact.nd (le_blt lc_len Z.f_len bt_len (la_cons (le_lc rfl sc_Book_fact.nd (li_list (le_fld Z.a__facts (lv 0))) (blkok_by (N := N_Book_fact) (sc := defScope (inClass (top 51) 25)) rfl (by decide +kernel)) (fun s H C cl fp => pg_name sc_Book_fact.nd rfl (by first | exact Or.inl rfl | exact Or.inr rfl)) (fun s H C cl fp => pts_lt (lt_cmp lo_gt (le_blt (lc_lenO Z.own_len_Clause F_Clause_len (hr.mono (by decide))) Z.f_len bt_len (la_cons (lv 4) la_nil)) le_int)) (fun s H C cl fp => (lv 4))) la_nil))) (lss_cons (ls_if (lw_pt (lw_and (lt_cmp lo_gt (le_blt lc_len Z.f_len bt_len (la_cons (lv 2) la_nil)) le_int) (lw_and1 (lt_cmp lo_ge (lv 3) (le_cvalI Z.cv_MOST_WIDE (le_gref Z.g_Book)))))) (lss_one ls_never) lss_nil) (lss_cons (ls_expr (le_meth0 (lv 0) Z.c_Book Z.m_Book__keep F_Book__keep (hr.mono (by decide)))) (lss_cons (ls_expr (le_append (le_fld Z.a__facts (lv 0)) (la_cons (le_makeS1 Z.mk_Clause F_Clause_init (hr.mono (by decide)) Z.g_Clause (lv 2)) la_nil))) (lss_one (ls_ret (le_bin lo_sub (le_blt lc_len Z.f_len bt_len (la_cons (le_fld Z.a__facts (lv 0)) la_nil)) le_int))))))))))))
abbrev N_Book_change : List Str := ["self", "kind", "count", "limits"]
theorem sc_Book_change : FnScope N_Book_change ["self", "kind", "count"] (defScope (inClass (top 51) 27)) := ⟨rfl, rfl, rfl, by decide +kernel, rfl, by decide +kernel, by decide +kernel⟩
def s_Book_change (K : PySem.W.Frag) (a : Ad) (T_Book__keep : PT1) : SS := sSeq (sIf (sTest (sBin (rhoIn true) (sVar 1) (sC (.tup [.str "begins", .str "held", .str "turns", .str "tellers"])))) (sNever) (sNext)) (sSeq (sIf (sAnd (sTest (sBin (rhoIsN true) (sVar 2) (sC .non))) (sNot (sTest (sChain rhoLe rhoLe (sC (.int 0)) (sVar 2) (sC (.int 24)))))) (sNever) (sNext)) (sSeq (sDrop (sMeth (a.g "Book") "_keep" T_Book__keep (sVar 0) aNil)) (sSeq (sSet 3 (sBlt rhoListM (aCons (sFld (GBook a) "_limits" (sVar 0)) (aNil)))) (sSeq (sSubSet (sVar 3) (sBM (fun d _ => d = .ref (a.g "KINDS")) (rhoTix (a.g "KINDS") ["begins", "held", "turns", "tellers"]) (sC (.ref (a.g "KINDS"))) (aCons (sVar 1) (aNil))) (sVar 2)) (sFldSet (GBook a) "_limits" (sVar 0) (sBlt rhoTuple (aCons (sVar 3) (aNil))))))))
theorem b_Book_change {P : Program} {w : World} {K : PySem.W.Frag} {mg : Str → Option Value} {base : Heap} {a : Ad} {T_Book__keep : PT1} (Z : Tx P w K mg a) (F_Book__keep : FnQ false P w K mg base 2 (a.m "Book" "_keep") T_Book__keep) : Body false P w K mg base 2 N_Book_change "Book.change" (defScope (inClass (top 51) 27)) (a.m "Book" "change") (defBody (inClass (top 51) 27)) (s_Book_change K a T_Book__keep) := by
  intro cdv A outer st H E hr hg
  exact (lss_cons (ls_if (lt_cmp (lo_notin (Room.u65 hr)) (lv 1) (le_gtup Z.g_KINDS Z.i_KINDS)) (lss_one ls_never) lss_nil) (lss_cons (ls_if (lw_pt (lw_and (lt_cmp lo_isnot (lv 2) le_non) (lw_and1 (lt_not (lt_chain lo_le lo_le le_int (lv 2) (le_gint Z.gi_MOST_LIMIT)))))) (lss_one ls_never) lss_nil) (lss_cons (ls_expr (le_meth0 (lv 0) Z.c_Book Z.m_Book__keep F_Book__keep (hr.mono (by decide)))) (lss_cons (ls_set 3 sc_Book_change.nd (le_bltT lc_listM Z.f_list bt_list (la_cons (le_fld Z.a__limits (lv 0)) la_nil))) (lss_cons (ls_sub (lv 3) (le_tindex (le_gref Z.g_KINDS) Z.ki_obj Z.ki_tup (la_cons (lv 1) la_nil)) (lv 2)) (lss_one (ls_fld Z.a__limits (lv 0) (le_bltT lc_tuple Z.f_tuple bt_tuple (la_cons (lv 3) la_nil)))))))))
abbrev N_Book_text : List Str := ["self", "lines", "fact", "day", "first", "second", "sure", "word", "person", "old", "new", "kind", "count"]
theorem sc_Book_text : FnScope N_Book_text ["self"] (defScope (inClass (top 51) 31)) := ⟨rfl, rfl, rfl, by decide +kernel, rfl, by decide +kernel, by decide +kernel⟩
def s_Book_text (K : PySem.W.Frag) (a : Ad) (T_Clause_str T_limit_line : PT1) : SS := sSeq (sSet 1 (sLstM (aCons (sJoined [sC (.str "people "), sFmt (sBM isStrD rhoJoin (sC (.str " ")) (aCons (sFld (GBook a) "_people" (sVar 0)) (aNil)))]) (aCons (sJoined [sC (.str "versions "), sFmt (sBM isStrD rhoJoin (sC (.str " ")) (aCons (sFld (GBook a) "_versions" (sVar 0)) (aNil)))]) (aNil))))) (sSeq (sDrop (sBM isLstM rhoApp (sVar 1) (aCons (sJoined [sC (.str "last "), sFmt (sFld (GBook a) "last_day" (sVar 0))]) (aNil)))) (sSeq (sFor (iLst (sFld (GBook a) "_meetings" (sVar 0))) (gTuple 4 (gsCons (gN 3) (gsCons (gN 4) (gsCons (gN 5) (gsCons (gN 6) (gsNil)))))) (sSeq (sSet 7 (sIfE (sTest (sVar 6)) (sC (.str "meet")) (sC (.str "maybe")))) (sDrop (sBM isLstM rhoApp (sVar 1) (aCons (sJoined [sFmt (sVar 7), sC (.str " "), sFmt (sVar 3), sC (.str " "), sFmt (sVar 4), sC (.str " "), sFmt (sVar 5)]) (aNil)))))) (sSeq (sFor (iLst (sFld (GBook a) "_turns" (sVar 0))) (gTuple 3 (gsCons (gN 8) (gsCons (gN 9) (gsCons (gN 10) (gsNil))))) (sDrop (sBM isLstM rhoApp (sVar 1) (aCons (sJoined [sC (.str "turn "), sFmt (sVar 8), sC (.str " "), sFmt (sVar 9), sC (.str " "), sFmt (sVar 10)]) (aNil))))) (sSeq (sFor (iLst (sFld (GBook a) "_facts" (sVar 0))) (gN 2) (sDrop (sBM isLstM rhoApp (sVar 1) (aCons (sBin rhoAdd (sC (.str "fact ")) (sBlt (rhoStrO (GClause a) T_Clause_str) (aCons (sVar 2) (aNil)))) (aNil))))) (sSeq (sFor (iZipT (aCons (sC (.tup [.str "begins", .str "held", .str "turns", .str "tellers"])) (aCons (sFld (GBook a) "_limits" (sVar 0)) (aNil)))) (gTuple 2 (gsCons (gN 11) (gsCons (gN 12) (gsNil)))) (sDrop (sBM isLstM rhoApp (sVar 1) (aCons (sCall T_limit_line (aCons (sVar 11) (aCons (sVar 12) (aNil)))) (aNil))))) (sRet (sBM isStrD rhoJoin (sC (.str "\n")) (aCons (sVar 1) (aNil)))))))))
theorem b_Book_text {P : Program} {w : World} {K : PySem.W.Frag} {mg : Str → Option Value} {base : Heap} {a : Ad} {T_Clause_str T_limit_line : PT1} (Z : Tx P w K mg a) (F_Clause_str : FnQ false P w K mg base 6 (a.m "Clause" "__str__") T_Clause_str) (F_limit_line : FnQ false P w K mg base 2 (a.g "limit_line") T_limit_line) : Body false P w K mg base 8 N_Book_text "Book.text" (defScope (inClass (top 51) 31)) (a.m "Book" "text") (defBody (inClass (top 51) 31)) (s_Book_text K a T_Clause_str T_limit_line) := by
  intro cdv A outer st H E hr hg
  exact (lss_cons (ls_set 1 sc_Book_text.nd (le_lstM (la_cons (le_joined (lj_cons le_str (lj_cons (le_fmt (le_join le_str (la_cons (le_fld Z.a__people (lv 0)) la_nil))) lj_nil))) (la_cons (le_joined (lj_cons le_str (lj_cons (le_fmt (le_join le_str (la_cons (le_fld Z.a__versions (lv 0)) la_nil))) lj_nil))) la_nil)))) (lss_cons (ls_expr (le_append (lv 1) (la_cons (le_joined (lj_cons le_str (lj_cons (le_fmt (le_fld Z.a_last_day (lv 0))) lj_nil))) la_nil))) (lss_cons (ls_for PySem.PassesOwn.never rfl (li_list (le_fld Z.a__meetings (lv 0))) (lg_tup rfl (lgs_cons (lg_name 3 sc_Book_text.nd) (lgs_cons (lg_name 4 sc_Book_text.nd) (lgs_cons (lg_name 5 sc_Book_text.nd) (lgs_cons (lg_name 6 sc_Book_text.nd) lgs_nil))))) (lss_cons (ls_set 7 sc_Book_text.nd (le_if (lt_val (lv 6)) le_str le_str)) (lss_one (ls_expr (le_append (lv 1) (la_cons (le_joined (lj_cons (le_fmt (lv 7)) (lj_cons le_str (lj_cons (le_fmt (lv 3)) (lj_cons le_str (lj_cons (le_fmt (lv 4)) (lj_cons le_str (lj_cons (le_fmt (lv 5)) lj_nil)))))))) la_nil)))))) (lss_cons (ls_for PySem.PassesOwn.never rfl (li_list (le_fld Z.a__turns (lv 0))) (lg_tup rfl (lgs_cons (lg_name 8 sc_Book_text.nd) (lgs_cons (lg_name 9 sc_Book_text.nd) (lgs_cons (lg_name 10 sc_Book_text.nd) lgs_nil)))) (lss_one (ls_expr (le_append (lv 1) (la_cons (le_joined (lj_cons le_str (lj_cons (le_fmt (lv 8)) (lj_cons le_str (lj_cons (le_fmt (lv 9)) (lj_cons le_str (lj_cons (le_fmt (lv 10)) lj_nil))))))) la_nil))))) (lss_cons (ls_for PySem.PassesOwn.never rfl (li_list (le_fld Z.a__facts (lv 0))) (lg_name 2 sc_Book_text.nd) (lss_one (ls_expr (le_append (lv 1) (la_cons (le_bin lo_add le_str (le_bltT (lc_strO Z.own_str_Clause F_Clause_str (hr.mono (by decide))) Z.f_str bt_str (la_cons (lv 2) la_nil))) la_nil))))) (lss_cons (ls_for PySem.PassesOwn.never rfl (li_zipT Z.f_zip (la_cons (le_gtup Z.g_KINDS Z.i_KINDS) (la_cons (le_fld Z.a__limits (lv 0)) la_nil))) (lg_tup rfl (lgs_cons (lg_name 11 sc_Book_text.nd) (lgs_cons (lg_name 12 sc_Book_text.nd) lgs_nil))) (lss_one (ls_expr (le_append (lv 1) (la_cons (le_call F_limit_line (hr.mono (by decide)) Z.g_limit_line Z.k_limit_line (la_cons (lv 11) (la_cons (lv 12) la_nil))) la_nil))))) (lss_one (ls_ret (le_join le_str (la_cons (lv 1) la_nil))))))))))
abbrev N_Book__do : List Str := ["self", "deed", "clause", "kind", "count", "person", "old", "new", "day", "first", "second", "sure"]
theorem sc_Book__do : FnScope N_Book__do ["self", "deed"] (defScope (inClass (top 51) 32)) := ⟨rfl, rfl, rfl, by decide +kernel, rfl, by decide +kernel, by decide +kernel⟩
def s_Book__do (K : PySem.W.Frag) (a : Ad) (T_Book_meet T_Book_may_turn T_Book_change T_Book_fact : PT1) : SS := sMatch (sVar 1) (sCase 2 [none, some 2] (sDrop (sMeth (a.g "Book") "fact" T_Book_fact (sVar 0) (aCons (sVar 2) (aNil)))) (sCase 3 [none, some 3, some 4] (sDrop (sMeth (a.g "Book") "change" T_Book_change (sVar 0) (aCons (sVar 3) (aCons (sVar 4) (aNil))))) (sCase 4 [none, some 5, some 6, some 7] (sDrop (sMeth (a.g "Book") "may_turn" T_Book_may_turn (sVar 0) (aCons (sVar 5) (aCons (sVar 6) (aCons (sVar 7) (aNil)))))) (sCase 5 [none, some 8, some 9, some 10, some 11] (sDrop (sMethK (a.g "Book") "meet" 4 1 T_Book_meet (sVar 0) (aCons (sVar 8) (aCons (sVar 9) (aCons (sVar 10) (aNil)))) (aCons (sVar 11) (aNil)))) (fun _ => sNext)))))
theorem b_Book__do {P : Program} {w : World} {K : PySem.W.Frag} {mg : Str → Option Value} {base : Heap} {a : Ad} {T_Book_meet T_Book_may_turn T_Book_change T_Book_fact : PT1} (Z : Tx P w K mg a) (F_Book_meet : FnK P w K mg base 3 (a.m "Book" "meet") 4 ["sure"] T_Book_meet) (F_Book_may_turn : FnQ false P w K mg base 3 (a.m "Book" "may_turn") T_Book_may_turn) (F_Book_change : FnQ false P w K mg base 3 (a.m "Book" "change") T_Book_change) (F_Book_fact : FnQ false P w K mg base 6 (a.m "Book" "fact") T_Book_fact) : Body false P w K mg base 6 N_Book__do "Book._do" (defScope (inClass (top 51) 32)) (a.m "Book" "_do") (defBody (inClass (top 51) 32)) (s_Book__do K a T_Book_meet T_Book_may_turn T_Book_change T_Book_fact) := by
  intro cdv A outer st H E hr hg
  exact (lss_one (ls_match (lv 1) (lcs_case rfl sc_Book__do.nd (.wild (.name 2 rfl (Or.inl rfl) (by first | exact .inl rfl | exact .inr rfl) .nil)) (lss_one (ls_expr (le_meth (lv 0) Z.c_Book Z.m_Book_fact F_Book_fact (hr.mono (by decide)) (la_cons (lv 2) la_nil)))) (lcs_case rfl sc_Book__do.nd (.wild (.name 3 rfl (Or.inl rfl) (by first | exact .inl rfl | exact .inr rfl) (.name 4 rfl (Or.inl rfl) (by first | exact .inl rfl | exact .inr rfl) .nil))) (lss_one (ls_expr (le_meth (lv 0) Z.c_Book Z.m_Book_change F_Book_change (hr.mono (by decide)) (la_cons (lv 3) (la_cons (lv 4) la_nil))))) (lcs_case rfl sc_Book__do.nd (.wild (.name 5 rfl (Or.inl rfl) (by first | exact .inl rfl | exact .inr rfl) (.name 6 rfl (Or.inl rfl) (by first | exact .inl rfl | exact .inr rfl) (.name 7 rfl (Or.inl rfl) (by first | exact .inl rfl | exact .inr rfl) .nil)))) (lss_one (ls_expr (le_meth (lv 0) Z.c_Book Z.m_Book_may_turn F_Book_may_turn (hr.mono (by decide)) (la_cons (lv 5) (la_cons (lv 6) (la_cons (lv 7) la_nil)))))) (lcs_case rfl sc_Book__do.nd (.wild (.name 8 rfl (Or.inl rfl) (by first | exact .inl rfl | exact .inr rfl) (.name 9 rfl (Or.inl rfl) (by first | exact .inl rfl | exact .inr rfl) (.name 10 rfl (Or.inl rfl) (by first | exact .inl rfl | exact .inr rfl) (.name 11 rfl (Or.inl rfl) (by first | exact .inl rfl | exact .inr rfl) .nil))))) (lss_one (ls_expr (le_methK (ks := ["sure"]) (lv 0) Z.c_Book Z.m_Book_meet F_Book_meet (hr.mono (by decide)) (la_cons (lv 8) (la_cons (lv 9) (la_cons (lv 10) la_nil))) (lk_cons (lv 11) lk_nil)))) lcs_nil))))))
abbrev N__law_bool : List Str := ["_law_answer", "_law_expected"]
theorem sc__law_bool : FnScope N__law_bool ["_law_answer", "_law_expected"] (defScope (top 53)) := ⟨rfl, rfl, rfl, by decide +kernel, rfl, by decide +kernel, by decide +kernel⟩
def s__law_bool (K : PySem.W.Frag) (a : Ad) : SS := sRet (sAndV (sBlt (rhoIsi K) (aCons (sVar 0) (aCons (sC (.ty "bool")) (aNil)))) (sBin (rhoEq false) (sVar 0) (sVar 1)))
theorem b__law_bool {P : Program} {w : World} {K : PySem.W.Frag} {mg : Str → Option Value} {base : Heap} {a : Ad} (Z : Tx P w K mg a)  : Body false P w K mg base 1 N__law_bool "_law_bool" (defScope (top 53)) (a.g "_law_bool") (defBody (top 53)) (s__law_bool K a) := by
  intro cdv A outer st H E hr hg
  exact (lss_one (ls_ret (le_and (le_blt lc_isi Z.f_isinstance bt_isinstance (la_cons (lv 0) (la_cons (le_bty Z.f_bool bt_bool) la_nil))) (le_one (le_cmp (lo_eq (Room.u64 hr)) (lv 0) (lv 1))))))
abbrev N__law_box : List Str := ["_law_script", "_law_cell"]
theorem sc__law_box : FnScope N__law_box ["_law_script"] (defScope (top 54)) := ⟨rfl, rfl, rfl, by decide +kernel, rfl, by decide +kernel, by decide +kernel⟩
def s__law_box (K : PySem.W.Frag) (a : Ad) : SS := sRet (sLstM (aCons (sC (.int 0)) (aCons (sC (.int 0)) (aCons (sC (.int 0)) (aCons (sLc (iLst (sSl (sVar 0) (oNo) (oSome (sC (.int 63))))) (tAll) (sBlt rhoInt (aCons (sVar 1) (aNil))) 1) (aNil))))))
theorem b__law_box {P : Program} {w : World} {K : PySem.W.Frag} {mg : Str → Option Value} {base : Heap} {a : Ad} (Z : Tx P w K mg a)  : Body false P w K mg base 1 N__law_box "_law_box" (defScope (top 54)) (a.g "_law_box") (defBody (top 54)) (s__law_box K a) := by
  intro cdv A outer st H E hr hg
  exact (lss_one (ls_ret (le_lstM (la_cons le_int (la_cons le_int (la_cons le_int (la_cons (le_lc rfl sc__law_box.nd (li_list (le_slice (lv 0) lo_no (lo_some le_int))) (blkok_by (N := N__law_box) (sc := defScope (top 54)) rfl (by decide +kernel)) (fun s H C cl fp => pg_name sc__law_box.nd rfl (by first | exact Or.inl rfl | exact Or.inr rfl)) (fun s H C cl fp => pts_all) (fun s H C cl fp => (le_bltT lc_int Z.f_int bt_int (la_cons (lv 1) la_nil)))) la_nil)))))))
abbrev N__law_take : List Str := ["_law_box_here", "_law_size", "_law_cell", "_law_digit"]
theorem sc__law_take : FnScope N__law_take ["_law_box_here", "_law_size"] (defScope (top 55)) := ⟨rfl, rfl, rfl, by decide +kernel, rfl, by decide +kernel, by decide +kernel⟩
def s__law_take (K : PySem.W.Frag) (a : Ad) : SS := sSeq (sIf (sAnd (sTest (sBin (rhoEq false) (sBin rhoIx (sVar 0) (sC (.int 0))) (sC (.int 0)))) (sTest (sBin rhoLt (sBin rhoIx (sVar 0) (sC (.int 1))) (sBlt rhoLen (aCons (sBin rhoIx (sVar 0) (sC (.int 3))) (aNil)))))) (sSeq (sSet 2 (sBlt rhoAbs (aCons (sBin rhoIx (sBin rhoIx (sVar 0) (sC (.int 3))) (sBin rhoIx (sVar 0) (sC (.int 1)))) (aNil)))) (sSeq (sSubSet (sVar 0) (sC (.int 1)) (sBin rhoAdd (sBin rhoIx (sVar 0) (sC (.int 1))) (sC (.int 1)))) (sIf (sTest (sBin rhoGe (sVar 2) (sBin rhoPow (sC (.int 10)) (sC (.int 18))))) (sSubSet (sVar 0) (sC (.int 0)) (sVar 2)) (sSubSet (sVar 0) (sC (.int 2)) (sBin rhoMod (sBlt rhoInt (aCons (sBin rhoAdd (sBin rhoAdd (sBin rhoMul (sBin rhoIx (sVar 0) (sC (.int 2))) (sC (.int 8191))) (sVar 2)) (sC (.int 1))) (aNil))) (sC (.int 2147483647))))))) (sNext)) (sSeq (sIf (sTest (sBin rhoGt (sBin rhoIx (sVar 0) (sC (.int 0))) (sC (.int 0)))) (sSeq (sSet 3 (sBin rhoMod (sBlt rhoInt (aCons (sBin rhoIx (sVar 0) (sC (.int 0))) (aNil))) (sVar 1))) (sSeq (sSubSet (sVar 0) (sC (.int 0)) (sBin rhoDiv (sBin rhoIx (sVar 0) (sC (.int 0))) (sVar 1))) (sRet (sVar 3)))) (sNext)) (sSeq (sSubSet (sVar 0) (sC (.int 2)) (sBin rhoMod (sBlt rhoInt (aCons (sBin rhoMul (sBin rhoIx (sVar 0) (sC (.int 2))) (sC (.int 48271))) (aNil))) (sC (.int 2147483647)))) (sRet (sBin rhoMod (sBlt rhoInt (aCons (sBin rhoDiv (sBin rhoMod (sBlt rhoInt (aCons (sBin rhoMul (sBin rhoIx (sVar 0) (sC (.int 2))) (sC (.int 69621))) (aNil))) (sC (.int 2147483629))) (sC (.int 16))) (aNil))) (sVar 1)))))
theorem b__law_take {P : Program} {w : World} {K : PySem.W.Frag} {mg : Str → Option Value} {base : Heap} {a : Ad} (Z : Tx P w K mg a)  : Body false P w K mg base 1 N__law_take "_law_take" (defScope (top 55)) (a.g "_law_take") (defBody (top 55)) (s__law_take K a) := by
  intro cdv A outer st H E hr hg
  exact (lss_cons (ls_if (lw_pt (lw_and (lt_cmp (lo_eq (Room.u64 hr)) (le_ix (lv 0) le_int) le_int) (lw_and1 (lt_cmp lo_lt (le_ix (lv 0) le_int) (le_blt lc_len Z.f_len bt_len (la_cons (le_ix (lv 0) le_int) la_nil)))))) (lss_cons (ls_set 2 sc__law_take.nd (le_blt lc_abs Z.f_abs bt_abs (la_cons (le_ix (le_ix (lv 0) le_int) (le_ix (lv 0) le_int)) la_nil))) (lss_cons (ls_sub (lv 0) le_int (le_bin lo_add (le_ix (lv 0) le_int) le_int)) (lss_one (ls_if (lt_cmp lo_ge (lv 2) (le_bin lo_pow le_int le_int)) (lss_one (ls_sub (lv 0) le_int (lv 2))) (lss_one (ls_sub (lv 0) le_int (le_bin lo_mod (le_bltT lc_int Z.f_int bt_int (la_cons (le_bin lo_add (le_bin lo_add (le_bin lo_mul (le_ix (lv 0) le_int) le_int) (lv 2)) le_int) la_nil)) le_int))))))) lss_nil) (lss_cons (ls_if (lt_cmp lo_gt (le_ix (lv 0) le_int) le_int) (lss_cons (ls_set 3 sc__law_take.nd (le_bin lo_mod (le_bltT lc_int Z.f_int bt_int (la_cons (le_ix (lv 0) le_int) la_nil)) (lv 1))) (lss_cons (ls_sub (lv 0) le_int (le_bin lo_div (le_ix (lv 0) le_int) (lv 1))) (lss_one (ls_ret (lv 3))))) lss_nil) (lss_cons (ls_sub (lv 0) le_int (le_bin lo_mod (le_bltT lc_int Z.f_int bt_int (la_cons (le_bin lo_mul (le_ix (lv 0) le_int) le_int) la_nil)) le_int)) (lss_one (ls_ret (le_bin lo_mod (le_bltT lc_int Z.f_int bt_int (la_cons (le_bin lo_div (le_bin lo_mod (le_bltT lc_int Z.f_int bt_int (la_cons (le_bin lo_mul (le_ix (lv 0) le_int) le_int) la_nil)) le_int) le_int) la_nil)) (lv 1)))))))
abbrev N__law_names : List Str := ["_law_box_here", "_law_count", "_law_shift", "_law_place", "_law_alike", "_law_names_here", "_law_k", "_law_letter", "_law_tail"]
theorem sc__law_names : FnScope N__law_names ["_law_box_here", "_law_count"] (defScope (top 56)) := ⟨rfl, rfl, rfl, by decide +kernel, rfl, by decide +kernel, by decide +kernel⟩
def s__law_names (K : PySem.W.Frag) (a : Ad) (T__law_take : PT1) : SS := sSeq (sSet 2 (sCall T__law_take (aCons (sVar 0) (aCons (sC (.int 10)) (aNil))))) (sSeq (sSet 3 (sCall T__law_take (aCons (sVar 0) (aCons (sC (.int 3)) (aNil))))) (sSeq (sSet 4 (sBin (rhoEq false) (sCall T__law_take (aCons (sVar 0) (aCons (sC (.int 2)) (aNil)))) (sC (.int 1)))) (sSeq (sSet 5 (sLstM (aNil))) (sSeq (sFor (iRange (aCons (sVar 1) (aNil))) (gN 6) (sSeq (sSet 7 (sBin rhoIx (sC (.str "abcdefghijklmnopqrstuvwxyz")) (sBlt rhoInt (aCons (sBin rhoMul (sCall T__law_take (aCons (sVar 0) (aCons (sC (.int 26)) (aNil)))) (sBin rhoSub (sC (.int 1)) (sBlt rhoInt (aCons (sVar 4) (aNil))))) (aNil))))) (sSeq (sSet 8 (sBin rhoIx (sLst (aCons (sC (.str "")) (aCons (sC (.str "q")) (aCons (sC (.str "zz")) (aCons (sC (.str "andy")) (aNil)))))) (sBlt rhoInt (aCons (sBin rhoMul (sCall T__law_take (aCons (sVar 0) (aCons (sC (.int 4)) (aNil)))) (sBin rhoSub (sC (.int 1)) (sBlt rhoInt (aCons (sVar 4) (aNil))))) (aNil))))) (sDrop (sBM isLstM rhoApp (sVar 5) (aCons (sBin rhoAdd (sBin rhoAdd (sBin rhoAdd (sVar 7) (sBin rhoMul (sVar 7) (sVar 3))) (sBlt rhoStr (aCons (sBin rhoMod (sBlt rhoInt (aCons (sBin rhoAdd (sBin rhoMul (sVar 6) (sC (.int 7))) (sVar 2)) (aNil))) (sC (.int 10))) (aNil)))) (sVar 8)) (aNil))))))) (sFreeze 5 (sRet (sVar 5)))))))
theorem b__law_names {P : Program} {w : World} {K : PySem.W.Frag} {mg : Str → Option Value} {base : Heap} {a : Ad} {T__law_take : PT1} (Z : Tx P w K mg a) (F__law_take : FnQ false P w K mg base 2 (a.g "_law_take") T__law_take) : Body false P w K mg base 2 N__law_names "_law_names" (defScope (top 56)) (a.g "_law_names") (defBody (top 56)) (s__law_names K a T__law_take) := by
  intro cdv A outer st H E hr hg
  exact (lss_cons (ls_set 2 sc__law_names.nd (le_call F__law_take (hr.mono (by decide)) Z.g__law_take Z.k__law_take (la_cons (lv 0) (la_cons le_int la_nil)))) (lss_cons (ls_set 3 sc__law_names.nd (le_call F__law_take (hr.mono (by decide)) Z.g__law_take Z.k__law_take (la_cons (lv 0) (la_cons le_int la_nil)))) (lss_cons (ls_set 4 sc__law_names.nd (le_cmp (lo_eq (Room.u64 hr)) (le_call F__law_take (hr.mono (by decide)) Z.g__law_take Z.k__law_take (la_cons (lv 0) (la_cons le_int la_nil))) le_int)) (lss_cons (ls_set 5 sc__law_names.nd (le_lstM la_nil)) (lss_cons (ls_for PySem.PassesOwn.never rfl (li_range rfl Z.f_range (la_cons (lv 1) la_nil)) (lg_name 6 sc__law_names.nd) (lss_cons (ls_set 7 sc__law_names.nd (le_ix le_str (le_bltT lc_int Z.f_int bt_int (la_cons (le_bin lo_mul (le_call F__law_take (hr.mono (by decide)) Z.g__law_take Z.k__law_take (la_cons (lv 0) (la_cons le_int la_nil))) (le_bin lo_sub le_int (le_bltT lc_int Z.f_int bt_int (la_cons (lv 4) la_nil)))) la_nil)))) (lss_cons (ls_set 8 sc__law_names.nd (le_ix (le_lst (la_cons le_str (la_cons le_str (la_cons le_str (la_cons le_str la_nil))))) (le_bltT lc_int Z.f_int bt_int (la_cons (le_bin lo_mul (le_call F__law_take (hr.mono (by decide)) Z.g__law_take Z.k__law_take (la_cons (lv 0) (la_cons le_int la_nil))) (le_bin lo_sub le_int (le_bltT lc_int Z.f_int bt_int (la_cons (lv 4) la_nil)))) la_nil)))) (lss_one (ls_expr (le_append (lv 5) (la_cons (le_bin lo_add (le_bin lo_add (le_bin lo_add (lv 7) (le_bin lo_mul (lv 7) (lv 3))) (le_bltT lc_str Z.f_str bt_str (la_cons (le_bin lo_mod (le_bltT lc_int Z.f_int bt_int (la_cons (le_bin lo_add (le_bin lo_mul (lv 6) le_int) (lv 2)) la_nil)) le_int) la_nil))) (lv 8)) la_nil))))))) (lss_freeze 5 (lss_one (ls_ret (lv 5)))))))))
abbrev N__law_unsure : List Str := ["_law_meetings_here", "_law_k"]
theorem sc__law_unsure : FnScope N__law_unsure ["_law_meetings_here"] (defScope (top 57)) := ⟨rfl, rfl, rfl, by decide +kernel, rfl, by decide +kernel, by decide +kernel⟩
def s__law_unsure (K : PySem.W.Frag) (a : Ad) : SS := sRet (sLc (iRange (aCons (sBlt rhoLen (aCons (sVar 0) (aNil))) (aNil))) (sNot (sTest (sBin rhoIx (sBin rhoIx (sVar 0) (sVar 1)) (sC (.int 3))))) (sVar 1) 1)
theorem b__law_unsure {P : Program} {w : World} {K : PySem.W.Frag} {mg : Str → Option Value} {base : Heap} {a : Ad} (Z : Tx P w K mg a)  : Body false P w K mg base 1 N__law_unsure "_law_unsure" (defScope (top 57)) (a.g "_law_unsure") (defBody (top 57)) (s__law_unsure K a) := by
  intro cdv A outer st H E hr hg
  exact (lss_one (ls_ret (le_lc rfl sc__law_unsure.nd (li_range rfl Z.f_range (la_cons (le_blt lc_len Z.f_len bt_len (la_cons (lv 0) la_nil)) la_nil)) (blkok_by (N := N__law_unsure) (sc := defScope (top 57)) rfl (by decide +kernel)) (fun s H C cl fp => pg_name sc__law_unsure.nd rfl (by first | exact Or.inl rfl | exact Or.inr rfl)) (fun s H C cl fp => pts_lt (lt_not (lt_val (le_ix (le_ix (lv 0) (lv 1)) le_int)))) (fun s H C cl fp => (lv 1)))))
abbrev N__law_pair_met : List Str := ["_law_rows", "_law_day", "_law_one", "_law_two", "_law_row"]
theorem sc__law_pair_met : FnScope N__law_pair_met ["_law_rows", "_law_day", "_law_one", "_law_two"] (defScope (top 58)) := ⟨rfl, rfl, rfl, by decide +kernel, rfl, by decide +kernel, by decide +kernel⟩
def s__law_pair_met (K : PySem.W.Frag) (a : Ad) : SS := sSeq (sFor (iLst (sVar 0)) (gN 4) (sIf (sAnd (sTest (sBin (rhoEq false) (sBin rhoIx (sVar 4) (sC (.int 0))) (sVar 1))) (sAnd (sTest (sBin (rhoIn false) (sVar 2) (sSl (sVar 4) (oSome (sC (.int 1))) (oSome (sC (.int 3)))))) (sTest (sBin (rhoIn false) (sVar 3) (sSl (sVar 4) (oSome (sC (.int 1))) (oSome (sC (.int 3)))))))) (sRet (sC (.bl true))) (sNext))) (sRet (sC (.bl false)))
theorem b__law_pair_met {P : Program} {w : World} {K : PySem.W.Frag} {mg : Str → Option Value} {base : Heap} {a : Ad} (Z : Tx P w K mg a)  : Body false P w K mg base 1 N__law_pair_met "_law_pair_met" (defScope (top 58)) (a.g "_law_pair_met") (defBody (top 58)) (s__law_pair_met K a) := by
  intro cdv A outer st H E hr hg
  exact (lss_cons (ls_for PySem.PassesOwn.never rfl (li_list (lv 0)) (lg_name 4 sc__law_pair_met.nd) (lss_one (ls_if (lw_pt (lw_and (lt_cmp (lo_eq (Room.u64 hr)) (le_ix (lv 4) le_int) (lv 1)) (lw_and (lt_cmp (lo_in (Room.u65 hr)) (lv 2) (le_slice (lv 4) (lo_some le_int) (lo_some le_int))) (lw_and1 (lt_cmp (lo_in (Room.u65 hr)) (lv 3) (le_slice (lv 4) (lo_some le_int) (lo_some le_int))))))) (lss_one (ls_ret le_bl)) lss_nil))) (lss_one (ls_ret le_bl)))
abbrev N__law_meetings : List Str := ["_law_box_here", "_law_people", "_law_final", "_law_count", "_law_rows", "_law_unsure_here", "_law_k", "_law_day", "_law_first", "_law_second", "_law_certain"]
theorem sc__law_meetings : FnScope N__law_meetings ["_law_box_here", "_law_people", "_law_final", "_law_count"] (defScope (top 59)) := ⟨rfl, rfl, rfl, by decide +kernel, rfl, by decide +kernel, by decide +kernel⟩
def s__law_meetings (K : PySem.W.Frag) (a : Ad) (T__law_take T__law_pair_met : PT1) : SS := sSeq (sSet 4 (sLstM (aNil))) (sSeq (sSet 5 (sC (.int 0))) (sSeq (sIf (sTest (sBin rhoLt (sBlt rhoLen (aCons (sVar 1) (aNil))) (sC (.int 2)))) (sFreeze 4 (sRet (sVar 4))) (sNext)) (sSeq (sFor (iRange (aCons (sVar 3) (aNil))) (gN 6) (sSeq (sSet 7 (sBin rhoAdd (sC (.int 1)) (sCall T__law_take (aCons (sVar 0) (aCons (sVar 2) (aNil)))))) (sSeq (sSet 8 (sCall T__law_take (aCons (sVar 0) (aCons (sBlt rhoLen (aCons (sVar 1) (aNil))) (aNil))))) (sSeq (sSet 9 (sBin rhoMod (sBlt rhoInt (aCons (sBin rhoAdd (sBin rhoAdd (sVar 8) (sC (.int 1))) (sCall T__law_take (aCons (sVar 0) (aCons (sBin rhoSub (sBlt rhoLen (aCons (sVar 1) (aNil))) (sC (.int 1))) (aNil))))) (aNil))) (sBlt rhoLen (aCons (sVar 1) (aNil))))) (sSeq (sSet 10 (sOrV (sBin (rhoEq true) (sCall T__law_take (aCons (sVar 0) (aCons (sC (.int 4)) (aNil)))) (sC (.int 1))) (sBin rhoGt (sVar 5) (sC (.int 2))))) (sIf (sNot (sTest (sCall T__law_pair_met (aCons (sVar 4) (aCons (sVar 7) (aCons (sBin rhoIx (sVar 1) (sVar 8)) (aCons (sBin rhoIx (sVar 1) (sVar 9)) (aNil)))))))) (sSeq (sDrop (sBM isLstM rhoApp (sVar 4) (aCons (sTup (aCons (sVar 7) (aCons (sBin rhoIx (sVar 1) (sVar 8)) (aCons (sBin rhoIx (sVar 1) (sVar 9)) (aCons (sVar 10) (aNil)))))) (aNil)))) (sIf (sNot (sTest (sVar 10))) (sSet 5 (sBin rhoAdd (sVar 5) (sC (.int 1)))) (sNext))) (sNext))))))) (sFreeze 4 (sRet (sVar 4))))))
theorem b__law_meetings {P : Program} {w : World} {K : PySem.W.Frag} {mg : Str → Option Value} {base : Heap} {a : Ad} {T__law_take T__law_pair_met : PT1} (Z : Tx P w K mg a) (F__law_take : FnQ false P w K mg base 2 (a.g "_law_take") T__law_take) (F__law_pair_met : FnQ false P w K mg base 2 (a.g "_law_pair_met") T__law_pair_met) : Body false P w K mg base 2 N__law_meetings "_law_meetings" (defScope (top 59)) (a.g "_law_meetings") (defBody (top 59)) (s__law_meetings K a T__law_take T__law_pair_met) := by
  intro cdv A outer st H E hr hg
  exact (lss_cons (ls_set 4 sc__law_meetings.nd (le_lstM la_nil)) (lss_cons (ls_set 5 sc__law_meetings.nd le_int) (lss_cons (ls_if (lt_cmp lo_lt (le_blt lc_len Z.f_len bt_len (la_cons (lv 1) la_nil)) le_int) (lss_freeze 4 (lss_one (ls_ret (lv 4)))) lss_nil) (lss_cons (ls_for PySem.PassesOwn.never rfl (li_range rfl Z.f_range (la_cons (lv 3) la_nil)) (lg_name 6 sc__law_meetings.nd) (lss_cons (ls_set 7 sc__law_meetings.nd (le_bin lo_add le_int (le_call F__law_take (hr.mono (by decide)) Z.g__law_take Z.k__law_take (la_cons (lv 0) (la_cons (lv 2) la_nil))))) (lss_cons (ls_set 8 sc__law_meetings.nd (le_call F__law_take (hr.mono (by decide)) Z.g__law_take Z.k__law_take (la_cons (lv 0) (la_cons (le_blt lc_len Z.f_len bt_len (la_cons (lv 1) la_nil)) la_nil)))) (lss_cons (ls_set 9 sc__law_meetings.nd (le_bin lo_mod (le_bltT lc_int Z.f_int bt_int (la_cons (le_bin lo_add (le_bin lo_add (lv 8) le_int) (le_call F__law_take (hr.mono (by decide)) Z.g__law_take Z.k__law_take (la_cons (lv 0) (la_cons (le_bin lo_sub (le_blt lc_len Z.f_len bt_len (la_cons (lv 1) la_nil)) le_int) la_nil)))) la_nil)) (le_blt lc_len Z.f_len bt_len (la_cons (lv 1) la_nil)))) (lss_cons (ls_set 10 sc__law_meetings.nd (le_or (le_cmp (lo_ne (Room.u64 hr)) (le_call F__law_take (hr.mono (by decide)) Z.g__law_take Z.k__law_take (la_cons (lv 0) (la_cons le_int la_nil))) le_int) (le_one (le_cmp lo_gt (lv 5) le_int)))) (lss_one (ls_if (lt_not (lt_val (le_call F__law_pair_met (hr.mono (by decide)) Z.g__law_pair_met Z.k__law_pair_met (la_cons (lv 4) (la_cons (lv 7) (la_cons (le_ix (lv 1) (lv 8)) (la_cons (le_ix (lv 1) (lv 9)) la_nil))))))) (lss_cons (ls_expr (le_append (lv 4) (la_cons (le_tup (la_cons (lv 7) (la_cons (le_ix (lv 1) (lv 8)) (la_cons (le_ix (lv 1) (lv 9)) (la_cons (lv 10) la_nil))))) la_nil))) (lss_one (ls_if (lt_not (lt_val (lv 10))) (lss_one (ls_set 5 sc__law_meetings.nd (le_bin lo_add (lv 5) le_int))) lss_nil))) lss_nil))))))) (lss_freeze 4 (lss_one (ls_ret (lv 4))))))))
abbrev N__law_changes : List Str := ["_law_box_here", "_law_people", "_law_forms", "_law_count", "_law_rows", "_law_k", "_law_old", "_law_new", "_law_row"]
theorem sc__law_changes : FnScope N__law_changes ["_law_box_here", "_law_people", "_law_forms", "_law_count"] (defScope (top 60)) := ⟨rfl, rfl, rfl, by decide +kernel, rfl, by decide +kernel, by decide +kernel⟩
def s__law_changes (K : PySem.W.Frag) (a : Ad) (T__law_take : PT1) : SS := sSeq (sSet 4 (sLstM (aNil))) (sSeq (sIf (sTest (sBin rhoLt (sBlt rhoLen (aCons (sVar 2) (aNil))) (sC (.int 2)))) (sFreeze 4 (sRet (sVar 4))) (sNext)) (sSeq (sFor (iRange (aCons (sVar 3) (aNil))) (gN 5) (sSeq (sSet 6 (sCall T__law_take (aCons (sVar 0) (aCons (sBlt rhoLen (aCons (sVar 2) (aNil))) (aNil))))) (sSeq (sSet 7 (sBin rhoMod (sBlt rhoInt (aCons (sBin rhoAdd (sBin rhoAdd (sVar 6) (sC (.int 1))) (sCall T__law_take (aCons (sVar 0) (aCons (sBin rhoSub (sBlt rhoLen (aCons (sVar 2) (aNil))) (sC (.int 1))) (aNil))))) (aNil))) (sBlt rhoLen (aCons (sVar 2) (aNil))))) (sSeq (sSet 8 (sTup (aCons (sBin rhoIx (sVar 1) (sCall T__law_take (aCons (sVar 0) (aCons (sBlt rhoLen (aCons (sVar 1) (aNil))) (aNil))))) (aCons (sBin rhoIx (sVar 2) (sVar 6)) (aCons (sBin rhoIx (sVar 2) (sVar 7)) (aNil)))))) (sIf (sTest (sBin (rhoIn true) (sVar 8) (sVar 4))) (sDrop (sBM isLstM rhoApp (sVar 4) (aCons (sVar 8) (aNil)))) (sNext)))))) (sFreeze 4 (sRet (sVar 4)))))
theorem b__law_changes {P : Program} {w : World} {K : PySem.W.Frag} {mg : Str → Option Value} {base : Heap} {a : Ad} {T__law_take : PT1} (Z : Tx P w K mg a) (F__law_take : FnQ false P w K mg base 2 (a.g "_law_take") T__law_take) : Body false P w K mg base 2 N__law_changes "_law_changes" (defScope (top 60)) (a.g "_law_changes") (defBody (top 60)) (s__law_changes K a T__law_take) := by
  intro cdv A outer st H E hr hg
  exact (lss_cons (ls_set 4 sc__law_changes.nd (le_lstM la_nil)) (lss_cons (ls_if (lt_cmp lo_lt (le_blt lc_len Z.f_len bt_len (la_cons (lv 2) la_nil)) le_int) (lss_freeze 4 (lss_one (ls_ret (lv 4)))) lss_nil) (lss_cons (ls_for PySem.PassesOwn.never rfl (li_range rfl Z.f_range (la_cons (lv 3) la_nil)) (lg_name 5 sc__law_changes.nd) (lss_cons (ls_set 6 sc__law_changes.nd (le_call F__law_take (hr.mono (by decide)) Z.g__law_take Z.k__law_take (la_cons (lv 0) (la_cons (le_blt lc_len Z.f_len bt_len (la_cons (lv 2) la_nil)) la_nil)))) (lss_cons (ls_set 7 sc__law_changes.nd (le_bin lo_mod (le_bltT lc_int Z.f_int bt_int (la_cons (le_bin lo_add (le_bin lo_add (lv 6) le_int) (le_call F__law_take (hr.mono (by decide)) Z.g__law_take Z.k__law_take (la_cons (lv 0) (la_cons (le_bin lo_sub (le_blt lc_len Z.f_len bt_len (la_cons (lv 2) la_nil)) le_int) la_nil)))) la_nil)) (le_blt lc_len Z.f_len bt_len (la_cons (lv 2) la_nil)))) (lss_cons (ls_set 8 sc__law_changes.nd (le_tup (la_cons (le_ix (lv 1) (le_call F__law_take (hr.mono (by decide)) Z.g__law_take Z.k__law_take (la_cons (lv 0) (la_cons (le_blt lc_len Z.f_len bt_len (la_cons (lv 1) la_nil)) la_nil)))) (la_cons (le_ix (lv 2) (lv 6)) (la_cons (le_ix (lv 2) (lv 7)) la_nil))))) (lss_one (ls_if (lt_cmp (lo_notin (Room.u65 hr)) (lv 8) (lv 4)) (lss_one (ls_expr (le_append (lv 4) (la_cons (lv 8) la_nil)))) lss_nil)))))) (lss_freeze 4 (lss_one (ls_ret (lv 4)))))))
abbrev N__law_claim_row : List Str := ["_law_box_here", "_law_world_here", "_law_people", "_law_final", "_law_forms", "_law_who", "_law_other", "_law_form", "_law_kind", "_law_positive", "_law_unsure_here", "_law_first", "_law_end"]
theorem sc__law_claim_row : FnScope N__law_claim_row ["_law_box_here", "_law_world_here"] (defScope (top 61)) := ⟨rfl, rfl, rfl, by decide +kernel, rfl, by decide +kernel, by decide +kernel⟩
def s__law_claim_row (K : PySem.W.Frag) (a : Ad) (T__law_take T__law_unsure : PT1) : SS := sSeq (sSet 2 (sBin rhoDGet (sVar 1) (sC (.str "people")))) (sSeq (sSet 3 (sBin rhoDGet (sVar 1) (sC (.str "last")))) (sSeq (sSet 4 (sBin rhoAdd (sLst (aCons (sC .non) (aNil))) (sBin rhoDGet (sVar 1) (sC (.str "versions"))))) (sSeq (sSet 5 (sBin rhoIx (sVar 2) (sCall T__law_take (aCons (sVar 0) (aCons (sBlt rhoLen (aCons (sVar 2) (aNil))) (aNil)))))) (sSeq (sSet 6 (sBin rhoIx (sVar 2) (sCall T__law_take (aCons (sVar 0) (aCons (sBlt rhoLen (aCons (sVar 2) (aNil))) (aNil)))))) (sSeq (sSet 7 (sBin rhoIx (sVar 4) (sCall T__law_take (aCons (sVar 0) (aCons (sBlt rhoLen (aCons (sVar 4) (aNil))) (aNil)))))) (sSeq (sSet 8 (sCall T__law_take (aCons (sVar 0) (aCons (sC (.int 9)) (aNil))))) (sSeq (sSet 9 (sBin (rhoEq true) (sCall T__law_take (aCons (sVar 0) (aCons (sC (.int 3)) (aNil)))) (sC (.int 1)))) (sSeq (sSet 10 (sCall T__law_unsure (aCons (sBin rhoDGet (sVar 1) (sC (.str "meetings"))) (aNil)))) (sSeq (sIf (sTest (sBin rhoLt (sVar 8) (sC (.int 4)))) (sRet (sTup (aCons (sVar 9) (aCons (sTup (aCons (sC (.str "knew")) (aCons (sVar 5) (aCons (sCall T__law_take (aCons (sVar 0) (aCons (sBin rhoAdd (sVar 3) (sC (.int 1))) (aNil)))) (aCons (sVar 7) (aNil)))))) (aNil))))) (sNext)) (sSeq (sIf (sTest (sBin rhoLt (sVar 8) (sC (.int 6)))) (sSeq (sSet 11 (sBin rhoAdd (sC (.int 1)) (sCall T__law_take (aCons (sVar 0) (aCons (sVar 3) (aNil)))))) (sSeq (sSet 12 (sBin rhoIx (sLst (aCons (sC .non) (aCons (sBin rhoAdd (sVar 11) (sCall T__law_take (aCons (sVar 0) (aCons (sBin rhoAdd (sBin rhoSub (sVar 3) (sVar 11)) (sC (.int 1))) (aNil))))) (aNil)))) (sCall T__law_take (aCons (sVar 0) (aCons (sC (.int 2)) (aNil)))))) (sRet (sTup (aCons (sVar 9) (aCons (sTup (aCons (sC (.str "told")) (aCons (sBin rhoIx (sLst (aCons (sC .non) (aCons (sVar 5) (aNil)))) (sCall T__law_take (aCons (sVar 0) (aCons (sC (.int 2)) (aNil))))) (aCons (sBin rhoIx (sLst (aCons (sC .non) (aCons (sVar 6) (aNil)))) (sCall T__law_take (aCons (sVar 0) (aCons (sC (.int 2)) (aNil))))) (aCons (sVar 11) (aCons (sVar 12) (aNil))))))) (aNil))))))) (sNext)) (sSeq (sIf (sTest (sBin (rhoEq false) (sVar 8) (sC (.int 6)))) (sRet (sTup (aCons (sVar 9) (aCons (sTup (aCons (sC (.str "began")) (aCons (sVar 5) (aCons (sVar 7) (aNil))))) (aNil))))) (sNext)) (sSeq (sIf (sAnd (sTest (sBin (rhoEq false) (sVar 8) (sC (.int 7)))) (sTest (sBin (rhoEq true) (sVar 10) (sLst (aNil))))) (sRet (sTup (aCons (sVar 9) (aCons (sTup (aCons (sC (.str "held")) (aCons (sBin rhoIx (sVar 10) (sCall T__law_take (aCons (sVar 0) (aCons (sBlt rhoLen (aCons (sVar 10) (aNil))) (aNil))))) (aNil)))) (aNil))))) (sNext)) (sRet (sTup (aCons (sVar 9) (aCons (sTup (aCons (sC (.str "turned")) (aCons (sVar 5) (aCons (sVar 7) (aCons (sBin rhoIx (sVar 4) (sCall T__law_take (aCons (sVar 0) (aCons (sBlt rhoLen (aCons (sVar 4) (aNil))) (aNil))))) (aNil)))))) (aNil)))))))))))))))))
theorem b__law_claim_row {P : Program} {w : World} {K : PySem.W.Frag} {mg : Str → Option Value} {base : Heap} {a : Ad} {T__law_take T__law_unsure : PT1} (Z : Tx P w K mg a) (F__law_take : FnQ false P w K mg base 2 (a.g "_law_take") T__law_take) (F__law_unsure : FnQ false P w K mg base 2 (a.g "_law_unsure") T__law_unsure) : Body false P w K mg base 2 N__law_claim_row "_law_claim_row" (defScope (top 61)) (a.g "_law_claim_row") (defBody (top 61)) (s__law_claim_row K a T__law_take T__law_unsure) := by
  intro cdv A outer st H E hr hg
  exact (lss_cons (ls_set 2 sc__law_claim_row.nd (le_dget (Room.u1 hr) (lv 1) le_str)) (lss_cons (ls_set 3 sc__law_claim_row.nd (le_dget (Room.u1 hr) (lv 1) le_str)) (lss_cons (ls_set 4 sc__law_claim_row.nd (le_bin lo_add (le_lst (la_cons le_non la_nil)) (le_dget (Room.u1 hr) (lv 1) le_str))) (lss_cons (ls_set 5 sc__law_claim_row.nd (le_ix (lv 2) (le_call F__law_take (hr.mono (by decide)) Z.g__law_take Z.k__law_take (la_cons (lv 0) (la_cons (le_blt lc_len Z.f_len bt_len (la_cons (lv 2) la_nil)) la_nil))))) (lss_cons (ls_set 6 sc__law_claim_row.nd (le_ix (lv 2) (le_call F__law_take (hr.mono (by decide)) Z.g__law_take Z.k__law_take (la_cons (lv 0) (la_cons (le_blt lc_len Z.f_len bt_len (la_cons (lv 2) la_nil)) la_nil))))) (lss_cons (ls_set 7 sc__law_claim_row.nd (le_ix (lv 4) (le_call F__law_take (hr.mono (by decide)) Z.g__law_take Z.k__law_take (la_cons (lv 0) (la_cons (le_blt lc_len Z.f_len bt_len (la_cons (lv 4) la_nil)) la_nil))))) (lss_cons (ls_set 8 sc__law_claim_row.nd (le_call F__law_take (hr.mono (by decide)) Z.g__law_take Z.k__law_take (la_cons (lv 0) (la_cons le_int la_nil)))) (lss_cons (ls_set 9 sc__law_claim_row.nd (le_cmp (lo_ne (Room.u64 hr)) (le_call F__law_take (hr.mono (by decide)) Z.g__law_take Z.k__law_take (la_cons (lv 0) (la_cons le_int la_nil))) le_int)) (lss_cons (ls_set 10 sc__law_claim_row.nd (le_call F__law_unsure (hr.mono (by decide)) Z.g__law_unsure Z.k__law_unsure (la_cons (le_dget (Room.u1 hr) (lv 1) le_str) la_nil))) (lss_cons (ls_if (lt_cmp lo_lt (lv 8) le_int) (lss_one (ls_ret (le_tup (la_cons (lv 9) (la_cons (le_tup (la_cons le_str (la_cons (lv 5) (la_cons (le_call F__law_take (hr.mono (by decide)) Z.g__law_take Z.k__law_take (la_cons (lv 0) (la_cons (le_bin lo_add (lv 3) le_int) la_nil))) (la_cons (lv 7) la_nil))))) la_nil))))) lss_nil) (lss_cons (ls_if (lt_cmp lo_lt (lv 8) le_int) (lss_cons (ls_set 11 sc__law_claim_row.nd (le_bin lo_add le_int (le_call F__law_take (hr.mono (by decide)) Z.g__law_take Z.k__law_take (la_cons (lv 0) (la_cons (lv 3) la_nil))))) (lss_cons (ls_set 12 sc__law_claim_row.nd (le_ix (le_lst (la_cons le_non (la_cons (le_bin lo_add (lv 11) (le_call F__law_take (hr.mono (by decide)) Z.g__law_take Z.k__law_take (la_cons (lv 0) (la_cons (le_bin lo_add (le_bin lo_sub (lv 3) (lv 11)) le_int) la_nil)))) la_nil))) (le_call F__law_take (hr.mono (by decide)) Z.g__law_take Z.k__law_take (la_cons (lv 0) (la_cons le_int la_nil))))) (lss_one (ls_ret (le_tup (la_cons (lv 9) (la_cons (le_tup (la_cons le_str (la_cons (le_ix (le_lst (la_cons le_non (la_cons (lv 5) la_nil))) (le_call F__law_take (hr.mono (by decide)) Z.g__law_take Z.k__law_take (la_cons (lv 0) (la_cons le_int la_nil)))) (la_cons (le_ix (le_lst (la_cons le_non (la_cons (lv 6) la_nil))) (le_call F__law_take (hr.mono (by decide)) Z.g__law_take Z.k__law_take (la_cons (lv 0) (la_cons le_int la_nil)))) (la_cons (lv 11) (la_cons (lv 12) la_nil)))))) la_nil))))))) lss_nil) (lss_cons (ls_if (lt_cmp (lo_eq (Room.u64 hr)) (lv 8) le_int) (lss_one (ls_ret (le_tup (la_cons (lv 9) (la_cons (le_tup (la_cons le_str (la_cons (lv 5) (la_cons (lv 7) la_nil)))) la_nil))))) lss_nil) (lss_cons (ls_if (lw_pt (lw_and (lt_cmp (lo_eq (Room.u64 hr)) (lv 8) le_int) (lw_and1 (lt_cmp (lo_ne (Room.u64 hr)) (lv 10) (le_lst la_nil))))) (lss_one (ls_ret (le_tup (la_cons (lv 9) (la_cons (le_tup (la_cons le_str (la_cons (le_ix (lv 10) (le_call F__law_take (hr.mono (by decide)) Z.g__law_take Z.k__law_take (la_cons (lv 0) (la_cons (le_blt lc_len Z.f_len bt_len (la_cons (lv 10) la_nil)) la_nil)))) la_nil))) la_nil))))) lss_nil) (lss_one (ls_ret (le_tup (la_cons (lv 9) (la_cons (le_tup (la_cons le_str (la_cons (lv 5) (la_cons (lv 7) (la_cons (le_ix (lv 4) (le_call F__law_take (hr.mono (by decide)) Z.g__law_take Z.k__law_take (la_cons (lv 0) (la_cons (le_blt lc_len Z.f_len bt_len (la_cons (lv 4) la_nil)) la_nil)))) la_nil))))) la_nil))))))))))))))))))
abbrev N__law_facts : List Str := ["_law_box_here", "_law_world_here", "_law_count", "_law_wide", "_law_facts_here", "_law_many", "_law_k", "_law_fact"]
theorem sc__law_facts : FnScope N__law_facts ["_law_box_here", "_law_world_here", "_law_count", "_law_wide"] (defScope (top 62)) := ⟨rfl, rfl, rfl, by decide +kernel, rfl, by decide +kernel, by decide +kernel⟩
def s__law_facts (K : PySem.W.Frag) (a : Ad) (T__law_claim_row T__law_take : PT1) : SS := sSeq (sSet 4 (sLstM (aNil))) (sSeq (sSet 5 (sC (.int 0))) (sSeq (sFor (iRange (aCons (sVar 2) (aNil))) (gN 6) (sSeq (sSet 7 (sLstM (aCons (sCall T__law_claim_row (aCons (sVar 0) (aCons (sVar 1) (aNil)))) (aNil)))) (sSeq (sIf (sAnd (sTest (sBin (rhoEq false) (sCall T__law_take (aCons (sVar 0) (aCons (sC (.int 3)) (aNil)))) (sC (.int 1)))) (sTest (sBin rhoLt (sVar 5) (sVar 3)))) (sSeq (sDrop (sBM isLstM rhoApp (sVar 7) (aCons (sCall T__law_claim_row (aCons (sVar 0) (aCons (sVar 1) (aNil)))) (aNil)))) (sSeq (sSet 5 (sBin rhoAdd (sVar 5) (sC (.int 1)))) (sIf (sTest (sBin (rhoEq false) (sCall T__law_take (aCons (sVar 0) (aCons (sC (.int 4)) (aNil)))) (sC (.int 1)))) (sDrop (sBM isLstM rhoApp (sVar 7) (aCons (sCall T__law_claim_row (aCons (sVar 0) (aCons (sVar 1) (aNil)))) (aNil)))) (sNext)))) (sNext)) (sFreeze 7 (sDrop (sBM isLstM rhoApp (sVar 4) (aCons (sVar 7) (aNil)))))))) (sFreeze 4 (sRet (sVar 4)))))
theorem b__law_facts {P : Program} {w : World} {K : PySem.W.Frag} {mg : Str → Option Value} {base : Heap} {a : Ad} {T__law_claim_row T__law_take : PT1} (Z : Tx P w K mg a) (F__law_claim_row : FnQ false P w K mg base 3 (a.g "_law_claim_row") T__law_claim_row) (F__law_take : FnQ false P w K mg base 2 (a.g "_law_take") T__law_take) : Body false P w K mg base 3 N__law_facts "_law_facts" (defScope (top 62)) (a.g "_law_facts") (defBody (top 62)) (s__law_facts K a T__law_claim_row T__law_take) := by
  intro cdv A outer st H E hr hg
  exact (lss_cons (ls_set 4 sc__law_facts.nd (le_lstM la_nil)) (lss_cons (ls_set 5 sc__law_facts.nd le_int) (lss_cons (ls_for PySem.PassesOwn.never rfl (li_range rfl Z.f_range (la_cons (lv 2) la_nil)) (lg_name 6 sc__law_facts.nd) (lss_cons (ls_set 7 sc__law_facts.nd (le_lstM (la_cons (le_call F__law_claim_row (hr.mono (by decide)) Z.g__law_claim_row Z.k__law_claim_row (la_cons (lv 0) (la_cons (lv 1) la_nil))) la_nil))) (lss_cons (ls_if (lw_pt (lw_and (lt_cmp (lo_eq (Room.u64 hr)) (le_call F__law_take (hr.mono (by decide)) Z.g__law_take Z.k__law_take (la_cons (lv 0) (la_cons le_int la_nil))) le_int) (lw_and1 (lt_cmp lo_lt (lv 5) (lv 3))))) (lss_cons (ls_expr (le_append (lv 7) (la_cons (le_call F__law_claim_row (hr.mono (by decide)) Z.g__law_claim_row Z.k__law_claim_row (la_cons (lv 0) (la_cons (lv 1) la_nil))) la_nil))) (lss_cons (ls_set 5 sc__law_facts.nd (le_bin lo_add (lv 5) le_int)) (lss_one (ls_if (lt_cmp (lo_eq (Room.u64 hr)) (le_call F__law_take (hr.mono (by decide)) Z.g__law_take Z.k__law_take (la_cons (lv 0) (la_cons le_int la_nil))) le_int) (lss_one (ls_expr (le_append (lv 7) (la_cons (le_call F__law_claim_row (hr.mono (by decide)) Z.g__law_claim_row Z.k__law_claim_row (la_cons (lv 0) (la_cons (lv 1) la_nil))) la_nil)))) lss_nil)))) lss_nil) (lss_freeze 7 (lss_one (ls_expr (le_append (lv 4) (la_cons (lv 7) la_nil)))))))) (lss_freeze 4 (lss_one (ls_ret (lv 4)))))))
abbrev N__law_made : List Str := ["_law_box_here", "_law_sizes", "_law_kinds", "_law_world_here", "_law_count"]
theorem sc__law_made : FnScope N__law_made ["_law_box_here", "_law_sizes", "_law_kinds"] (defScope (top 63)) := ⟨rfl, rfl, rfl, by decide +kernel, rfl, by decide +kernel, by decide +kernel⟩
def s__law_made (K : PySem.W.Frag) (a : Ad) (T__law_names T__law_take T__law_meetings T__law_changes T__law_facts : PT1) : SS := sSeq (sSet 3 (sDict1 "people" (sCall T__law_names (aCons (sVar 0) (aCons (sBin rhoAdd (sC (.int 1)) (sCall T__law_take (aCons (sVar 0) (aCons (sBin rhoIx (sVar 1) (sC (.int 0))) (aNil))))) (aNil)))))) (sSeq (sDictSet (sVar 3) (sC (.str "versions")) (sCall T__law_names (aCons (sVar 0) (aCons (sBin rhoAdd (sC (.int 1)) (sCall T__law_take (aCons (sVar 0) (aCons (sBin rhoIx (sVar 2) (sC (.int 0))) (aNil))))) (aNil))))) (sSeq (sDictSet (sVar 3) (sC (.str "last")) (sBin rhoAdd (sC (.int 1)) (sCall T__law_take (aCons (sVar 0) (aCons (sBin rhoIx (sVar 1) (sC (.int 1))) (aNil)))))) (sSeq (sSet 4 (sCall T__law_take (aCons (sVar 0) (aCons (sBin rhoAdd (sBin rhoIx (sVar 1) (sC (.int 2))) (sC (.int 1))) (aNil))))) (sSeq (sDictSet (sVar 3) (sC (.str "meetings")) (sCall T__law_meetings (aCons (sVar 0) (aCons (sBin rhoDGet (sVar 3) (sC (.str "people"))) (aCons (sBin rhoDGet (sVar 3) (sC (.str "last"))) (aCons (sVar 4) (aNil))))))) (sSeq (sDictSet (sVar 3) (sC (.str "turns")) (sCall T__law_changes (aCons (sVar 0) (aCons (sBin rhoDGet (sVar 3) (sC (.str "people"))) (aCons (sBin rhoDGet (sVar 3) (sC (.str "versions"))) (aCons (sCall T__law_take (aCons (sVar 0) (aCons (sBin rhoIx (sVar 2) (sC (.int 1))) (aNil)))) (aNil))))))) (sSeq (sDictSet (sVar 3) (sC (.str "facts")) (sLst (aNil))) (sSeq (sDictSet (sVar 3) (sC (.str "facts")) (sCall T__law_facts (aCons (sVar 0) (aCons (sVar 3) (aCons (sCall T__law_take (aCons (sVar 0) (aCons (sBin rhoAdd (sBin rhoIx (sVar 1) (sC (.int 3))) (sC (.int 1))) (aNil)))) (aCons (sBin rhoIx (sVar 1) (sC (.int 4))) (aNil))))))) (sSeq (sDictSet (sVar 3) (sC (.str "limits")) (sLst (aCons (sC (.int 1)) (aCons (sC .non) (aCons (sC .non) (aCons (sC .non) (aNil))))))) (sRet (sVar 3))))))))))
theorem b__law_made {P : Program} {w : World} {K : PySem.W.Frag} {mg : Str → Option Value} {base : Heap} {a : Ad} {T__law_names T__law_take T__law_meetings T__law_changes T__law_facts : PT1} (Z : Tx P w K mg a) (F__law_names : FnQ false P w K mg base 3 (a.g "_law_names") T__law_names) (F__law_take : FnQ false P w K mg base 2 (a.g "_law_take") T__law_take) (F__law_meetings : FnQ false P w K mg base 3 (a.g "_law_meetings") T__law_meetings) (F__law_changes : FnQ false P w K mg base 3 (a.g "_law_changes") T__law_changes) (F__law_facts : FnQ false P w K mg base 4 (a.g "_law_facts") T__law_facts) : Body false P w K mg base 4 N__law_made "_law_made" (defScope (top 63)) (a.g "_law_made") (defBody (top 63)) (s__law_made K a T__law_names T__law_take T__law_meetings T__law_changes T__law_facts) := by
  intro cdv A outer st H E hr hg
  exact (lss_cons (ls_set 3 sc__law_made.nd (le_dict1 (le_call F__law_names (hr.mono (by decide)) Z.g__law_names Z.k__law_names (la_cons (lv 0) (la_cons (le_bin lo_add le_int (le_call F__law_take (hr.mono (by decide)) Z.g__law_take Z.k__law_take (la_cons (lv 0) (la_cons (le_ix (lv 1) le_int) la_nil)))) la_nil))))) (lss_cons (ls_dput (Room.u1 hr) (lv 3) le_str (le_call F__law_names (hr.mono (by decide)) Z.g__law_names Z.k__law_names (la_cons (lv 0) (la_cons (le_bin lo_add le_int (le_call F__law_take (hr.mono (by decide)) Z.g__law_take Z.k__law_take (la_cons (lv 0) (la_cons (le_ix (lv 2) le_int) la_nil)))) la_nil)))) (lss_cons (ls_dput (Room.u1 hr) (lv 3) le_str (le_bin lo_add le_int (le_call F__law_take (hr.mono (by decide)) Z.g__law_take Z.k__law_take (la_cons (lv 0) (la_cons (le_ix (lv 1) le_int) la_nil))))) (lss_cons (ls_set 4 sc__law_made.nd (le_call F__law_take (hr.mono (by decide)) Z.g__law_take Z.k__law_take (la_cons (lv 0) (la_cons (le_bin lo_add (le_ix (lv 1) le_int) le_int) la_nil)))) (lss_cons (ls_dput (Room.u1 hr) (lv 3) le_str (le_call F__law_meetings (hr.mono (by decide)) Z.g__law_meetings Z.k__law_meetings (la_cons (lv 0) (la_cons (le_dget (Room.u1 hr) (lv 3) le_str) (la_cons (le_dget (Room.u1 hr) (lv 3) le_str) (la_cons (lv 4) la_nil)))))) (lss_cons (ls_dput (Room.u1 hr) (lv 3) le_str (le_call F__law_changes (hr.mono (by decide)) Z.g__law_changes Z.k__law_changes (la_cons (lv 0) (la_cons (le_dget (Room.u1 hr) (lv 3) le_str) (la_cons (le_dget (Room.u1 hr) (lv 3) le_str) (la_cons (le_call F__law_take (hr.mono (by decide)) Z.g__law_take Z.k__law_take (la_cons (lv 0) (la_cons (le_ix (lv 2) le_int) la_nil))) la_nil)))))) (lss_cons (ls_dput (Room.u1 hr) (lv 3) le_str (le_lst la_nil)) (lss_cons (ls_dput (Room.u1 hr) (lv 3) le_str (le_call F__law_facts (hr.mono (by decide)) Z.g__law_facts Z.k__law_facts (la_cons (lv 0) (la_cons (lv 3) (la_cons (le_call F__law_take (hr.mono (by decide)) Z.g__law_take Z.k__law_take (la_cons (lv 0) (la_cons (le_bin lo_add (le_ix (lv 1) le_int) le_int) la_nil))) (la_cons (le_ix (lv 1) le_int) la_nil)))))) (lss_cons (ls_dput (Room.u1 hr) (lv 3) le_str (le_lst (la_cons le_int (la_cons le_non (la_cons le_non (la_cons le_non la_nil)))))) (lss_one (ls_ret (lv 3))))))))))))
abbrev N__law_world : List Str := ["_law_box_here", "_law_people", "_law_days", "_law_meetings_here", "_law_facts_here", "_law_wide"]
theorem sc__law_world : FnScope N__law_world ["_law_box_here", "_law_people", "_law_days", "_law_meetings_here", "_law_facts_here", "_law_wide"] (defScope (top 64)) := ⟨rfl, rfl, rfl, by decide +kernel, rfl, by decide +kernel, by decide +kernel⟩
def s__law_world (K : PySem.W.Frag) (a : Ad) (T__law_made : PT1) : SS := sRet (sCall T__law_made (aCons (sVar 0) (aCons (sLst (aCons (sVar 1) (aCons (sVar 2) (aCons (sVar 3) (aCons (sVar 4) (aCons (sVar 5) (aNil))))))) (aCons (sLst (aCons (sC (.int 2)) (aCons (sC (.int 3)) (aNil)))) (aNil)))))
theorem b__law_world {P : Program} {w : World} {K : PySem.W.Frag} {mg : Str → Option Value} {base : Heap} {a : Ad} {T__law_made : PT1} (Z : Tx P w K mg a) (F__law_made : FnQ false P w K mg base 5 (a.g "_law_made") T__law_made) : Body false P w K mg base 5 N__law_world "_law_world" (defScope (top 64)) (a.g "_law_world") (defBody (top 64)) (s__law_world K a T__law_made) := by
  intro cdv A outer st H E hr hg
  exact (lss_one (ls_ret (le_call F__law_made (hr.mono (by decide)) Z.g__law_made Z.k__law_made (la_cons (lv 0) (la_cons (le_lst (la_cons (lv 1) (la_cons (lv 2) (la_cons (lv 3) (la_cons (lv 4) (la_cons (lv 5) la_nil)))))) (la_cons (le_lst (la_cons le_int (la_cons le_int la_nil))) la_nil))))))
abbrev N__law_text : List Str := ["_law_row", "_law_parts", "_law_k", "_law_item"]
theorem sc__law_text : FnScope N__law_text ["_law_row"] (defScope (top 65)) := ⟨rfl, rfl, rfl, by decide +kernel, rfl, by decide +kernel, by decide +kernel⟩
def s__law_text (K : PySem.W.Frag) (a : Ad) : SS := sSeq (sSet 1 (sLstM (aNil))) (sSeq (sIf (sNot (sTest (sBin rhoIx (sVar 0) (sC (.int 0))))) (sDrop (sBM isLstM rhoApp (sVar 1) (aCons (sC (.str "not")) (aNil)))) (sNext)) (sSeq (sFor (iRange (aCons (sBlt rhoLen (aCons (sBin rhoIx (sVar 0) (sC (.int 1))) (aNil))) (aNil))) (gN 2) (sSeq (sSet 3 (sBin rhoIx (sBin rhoIx (sVar 0) (sC (.int 1))) (sVar 2))) (sIf (sAnd (sTest (sBin (rhoIsN false) (sVar 3) (sC .non))) (sAnd (sTest (sBin (rhoEq false) (sBin rhoIx (sBin rhoIx (sVar 0) (sC (.int 1))) (sC (.int 0))) (sC (.str "told")))) (sTest (sBin (rhoEq false) (sVar 2) (sC (.int 4)))))) (sDrop (sBM isLstM rhoApp (sVar 1) (aCons (sC (.str "end")) (aNil)))) (sIf (sTest (sBin (rhoIsN false) (sVar 3) (sC .non))) (sDrop (sBM isLstM rhoApp (sVar 1) (aCons (sC (.str "any")) (aNil)))) (sDrop (sBM isLstM rhoApp (sVar 1) (aCons (sBlt rhoStr (aCons (sVar 3) (aNil))) (aNil)))))))) (sRet (sBM isStrD rhoJoin (sC (.str " ")) (aCons (sVar 1) (aNil))))))
theorem b__law_text {P : Program} {w : World} {K : PySem.W.Frag} {mg : Str → Option Value} {base : Heap} {a : Ad} (Z : Tx P w K mg a)  : Body false P w K mg base 1 N__law_text "_law_text" (defScope (top 65)) (a.g "_law_text") (defBody (top 65)) (s__law_text K a) := by
  intro cdv A outer st H E hr hg
  exact (lss_cons (ls_set 1 sc__law_text.nd (le_lstM la_nil)) (lss_cons (ls_if (lt_not (lt_val (le_ix (lv 0) le_int))) (lss_one (ls_expr (le_append (lv 1) (la_cons le_str la_nil)))) lss_nil) (lss_cons (ls_for PySem.PassesOwn.never rfl (li_range rfl Z.f_range (la_cons (le_blt lc_len Z.f_len bt_len (la_cons (le_ix (lv 0) le_int) la_nil)) la_nil)) (lg_name 2 sc__law_text.nd) (lss_cons (ls_set 3 sc__law_text.nd (le_ix (le_ix (lv 0) le_int) (lv 2))) (lss_one (ls_if (lw_pt (lw_and (lt_cmp lo_is (lv 3) le_non) (lw_and (lt_cmp (lo_eq (Room.u64 hr)) (le_ix (le_ix (lv 0) le_int) le_int) le_str) (lw_and1 (lt_cmp (lo_eq (Room.u64 hr)) (lv 2) le_int))))) (lss_one (ls_expr (le_append (lv 1) (la_cons le_str la_nil)))) (lss_one (ls_if (lt_cmp lo_is (lv 3) le_non) (lss_one (ls_expr (le_append (lv 1) (la_cons le_str la_nil)))) (lss_one (ls_expr (le_append (lv 1) (la_cons (le_bltT lc_str Z.f_str bt_str (la_cons (lv 3) la_nil)) la_nil)))))))))) (lss_one (ls_ret (le_join le_str (la_cons (lv 1) la_nil)))))))
abbrev N__law_same : List Str := ["_law_claim_here", "_law_row"]
theorem sc__law_same : FnScope N__law_same ["_law_claim_here", "_law_row"] (defScope (top 66)) := ⟨rfl, rfl, rfl, by decide +kernel, rfl, by decide +kernel, by decide +kernel⟩
def s__law_same (K : PySem.W.Frag) (a : Ad) (T__law_bool : PT1) : SS := sSeq (sIf (sOr (sNot (sTest (sBlt (rhoIsi K) (aCons (sVar 0) (aCons (sC (.ref (a.g "Claim"))) (aNil)))))) (sNot (sTest (sCall T__law_bool (aCons (sFld (GClaim a) "positive" (sVar 0)) (aCons (sBin rhoIx (sVar 1) (sC (.int 0))) (aNil))))))) (sRet (sC (.bl false))) (sNext)) (sRet (sBin (rhoEq false) (sBlt rhoRepr (aCons (sFld (GClaim a) "words" (sVar 0)) (aNil))) (sBlt rhoRepr (aCons (sBin rhoIx (sVar 1) (sC (.int 1))) (aNil)))))
theorem b__law_same {P : Program} {w : World} {K : PySem.W.Frag} {mg : Str → Option Value} {base : Heap} {a : Ad} {T__law_bool : PT1} (Z : Tx P w K mg a) (F__law_bool : FnQ false P w K mg base 2 (a.g "_law_bool") T__law_bool) : Body true P w K mg base 2 N__law_same "_law_same" (defScope (top 66)) (a.g "_law_same") (defBody (top 66)) (s__law_same K a T__law_bool) := by
  intro cdv A outer st H E hr hg
  exact (lss_cons (ls_if (lw_pt (lw_or (lt_not (lt_val (le_blt lc_isi Z.f_isinstance bt_isinstance (la_cons (lv 0) (la_cons (le_gref Z.g_Claim) la_nil))))) (lw_or1 (lt_not (lt_val (le_call F__law_bool (hr.mono (by decide)) Z.g__law_bool Z.k__law_bool (la_cons (le_fld Z.a_positive (lv 0)) (la_cons (le_ix (lv 1) le_int) la_nil)))))))) (lss_one (ls_ret le_bl)) lss_nil) (lss_one (ls_ret (le_cmp (lo_eq (Room.u64 hr)) (le_blt (lc_repr (hg rfl) (Room.u64 hr)) Z.f_repr bt_repr (la_cons (le_fld Z.a_words (lv 0)) la_nil)) (le_blt (lc_repr (hg rfl) (Room.u64 hr)) Z.f_repr bt_repr (la_cons (le_ix (lv 1) le_int) la_nil))))))
abbrev N__law_limits : List Str := ["_law_box_here", "_law_world_here", "_law_which", "_law_limits_here"]
theorem sc__law_limits : FnScope N__law_limits ["_law_box_here", "_law_world_here"] (defScope (top 67)) := ⟨rfl, rfl, rfl, by decide +kernel, rfl, by decide +kernel, by decide +kernel⟩
def s__law_limits (K : PySem.W.Frag) (a : Ad) (T__law_take : PT1) : SS := sSeq (sDictSet (sVar 1) (sC (.str "limits")) (sLstM (aCons (sBin rhoIx (sLst (aCons (sC (.int 1)) (aCons (sC (.int 1)) (aCons (sC (.int 2)) (aCons (sC .non) (aNil)))))) (sCall T__law_take (aCons (sVar 0) (aCons (sC (.int 4)) (aNil))))) (aCons (sC .non) (aCons (sC .non) (aCons (sC .non) (aNil))))))) (sSeq (sSet 2 (sCall T__law_take (aCons (sVar 0) (aCons (sC (.int 5)) (aNil))))) (sIf (sAnd (sTest (sBin rhoGt (sVar 2) (sC (.int 0)))) (sTest (sBin rhoLt (sVar 2) (sC (.int 4))))) (sSeq (sSet 3 (sBin rhoDGet (sVar 1) (sC (.str "limits")))) (sSeq (sSubSet (sVar 3) (sVar 2) (sCall T__law_take (aCons (sVar 0) (aCons (sC (.int 3)) (aNil))))) (sIf (sTest (sBin (rhoEq false) (sBin rhoIx (sVar 3) (sC (.int 0))) (sC (.int 2)))) (sSubSet (sVar 3) (sC (.int 0)) (sC (.int 1))) (sNext)))) (sNext)))
theorem b__law_limits {P : Program} {w : World} {K : PySem.W.Frag} {mg : Str → Option Value} {base : Heap} {a : Ad} {T__law_take : PT1} (Z : Tx P w K mg a) (F__law_take : FnQ false P w K mg base 2 (a.g "_law_take") T__law_take) : Body false P w K mg base 2 N__law_limits "_law_limits" (defScope (top 67)) (a.g "_law_limits") (defBody (top 67)) (s__law_limits K a T__law_take) := by
  intro cdv A outer st H E hr hg
  exact (lss_cons (ls_dput (Room.u1 hr) (lv 1) le_str (le_lstM (la_cons (le_ix (le_lst (la_cons le_int (la_cons le_int (la_cons le_int (la_cons le_non la_nil))))) (le_call F__law_take (hr.mono (by decide)) Z.g__law_take Z.k__law_take (la_cons (lv 0) (la_cons le_int la_nil)))) (la_cons le_non (la_cons le_non (la_cons le_non la_nil)))))) (lss_cons (ls_set 2 sc__law_limits.nd (le_call F__law_take (hr.mono (by decide)) Z.g__law_take Z.k__law_take (la_cons (lv 0) (la_cons le_int la_nil)))) (lss_one (ls_if (lw_pt (lw_and (lt_cmp lo_gt (lv 2) le_int) (lw_and1 (lt_cmp lo_lt (lv 2) le_int)))) (lss_cons (ls_set 3 sc__law_limits.nd (le_dget (Room.u1 hr) (lv 1) le_str)) (lss_cons (ls_sub (lv 3) (lv 2) (le_call F__law_take (hr.mono (by decide)) Z.g__law_take Z.k__law_take (la_cons (lv 0) (la_cons le_int la_nil)))) (lss_one (ls_if (lt_cmp (lo_eq (Room.u64 hr)) (le_ix (lv 3) le_int) le_int) (lss_one (ls_sub (lv 3) le_int le_int)) lss_nil)))) lss_nil))))
abbrev N__law_claim : List Str := ["_law_row", "_law_words", "_law_claim_here"]
theorem sc__law_claim : FnScope N__law_claim ["_law_row"] (defScope (top 68)) := ⟨rfl, rfl, rfl, by decide +kernel, rfl, by decide +kernel, by decide +kernel⟩
def s__law_claim (K : PySem.W.Frag) (a : Ad) (T_Knew_init T_Told_init T_Began_init T_Held_init T_Turned_init T_Claim_invert : PT1) : SS := sSeq (sSet 1 (sBin rhoIx (sVar 0) (sC (.int 1)))) (sSeq (sIf (sTest (sBin (rhoEq false) (sBin rhoIx (sVar 1) (sC (.int 0))) (sC (.str "knew")))) (sSet 2 (sMake (a.g "Knew") T_Knew_init (aCons (sBin rhoIx (sVar 1) (sC (.int 1))) (aCons (sBin rhoIx (sVar 1) (sC (.int 2))) (aCons (sBin rhoIx (sVar 1) (sC (.int 3))) (aNil)))))) (sIf (sTest (sBin (rhoEq false) (sBin rhoIx (sVar 1) (sC (.int 0))) (sC (.str "told")))) (sSet 2 (sMake (a.g "Told") T_Told_init (aCons (sBin rhoIx (sVar 1) (sC (.int 1))) (aCons (sBin rhoIx (sVar 1) (sC (.int 2))) (aCons (sBin rhoIx (sVar 1) (sC (.int 3))) (aCons (sBin rhoIx (sVar 1) (sC (.int 4))) (aNil))))))) (sIf (sTest (sBin (rhoEq false) (sBin rhoIx (sVar 1) (sC (.int 0))) (sC (.str "began")))) (sSet 2 (sMake (a.g "Began") T_Began_init (aCons (sBin rhoIx (sVar 1) (sC (.int 1))) (aCons (sBin rhoIx (sVar 1) (sC (.int 2))) (aNil))))) (sIf (sTest (sBin (rhoEq false) (sBin rhoIx (sVar 1) (sC (.int 0))) (sC (.str "held")))) (sSet 2 (sMake (a.g "Held") T_Held_init (aCons (sBin rhoIx (sVar 1) (sC (.int 1))) (aNil)))) (sSet 2 (sMake (a.g "Turned") T_Turned_init (aCons (sBin rhoIx (sVar 1) (sC (.int 1))) (aCons (sBin rhoIx (sVar 1) (sC (.int 2))) (aCons (sBin rhoIx (sVar 1) (sC (.int 3))) (aNil)))))))))) (sSeq (sIf (sTest (sBin rhoIx (sVar 0) (sC (.int 0)))) (sRet (sVar 2)) (sNext)) (sRet (sInv (GClaim a) T_Claim_invert (sVar 2)))))
theorem b__law_claim {P : Program} {w : World} {K : PySem.W.Frag} {mg : Str → Option Value} {base : Heap} {a : Ad} {T_Knew_init T_Told_init T_Began_init T_Held_init T_Turned_init T_Claim_invert : PT1} (Z : Tx P w K mg a) (F_Knew_init : FnQ false P w K mg base 3 (a.m "Knew" "__init__") T_Knew_init) (F_Told_init : FnQ false P w K mg base 3 (a.m "Told" "__init__") T_Told_init) (F_Began_init : FnQ false P w K mg base 3 (a.m "Began" "__init__") T_Began_init) (F_Held_init : FnQ false P w K mg base 3 (a.m "Held" "__init__") T_Held_init) (F_Turned_init : FnQ false P w K mg base 3 (a.m "Turned" "__init__") T_Turned_init) (F_Claim_invert : FnQ false P w K mg base 4 (a.m "Claim" "__invert__") T_Claim_invert) : Body false P w K mg base 4 N__law_claim "_law_claim" (defScope (top 68)) (a.g "_law_claim") (defBody (top 68)) (s__law_claim K a T_Knew_init T_Told_init T_Began_init T_Held_init T_Turned_init T_Claim_invert) := by
  intro cdv A outer st H E hr hg
  exact (lss_cons (ls_set 1 sc__law_claim.nd (le_ix (lv 0) le_int)) (lss_cons (ls_if (lt_cmp (lo_eq (Room.u64 hr)) (le_ix (lv 1) le_int) le_str) (lss_one (ls_set 2 sc__law_claim.nd (le_make Z.mk_Knew F_Knew_init (hr.mono (by decide)) Z.g_Knew (la_cons (le_ix (lv 1) le_int) (la_cons (le_ix (lv 1) le_int) (la_cons (le_ix (lv 1) le_int) la_nil)))))) (lss_one (ls_if (lt_cmp (lo_eq (Room.u64 hr)) (le_ix (lv 1) le_int) le_str) (lss_one (ls_set 2 sc__law_claim.nd (le_make Z.mk_Told F_Told_init (hr.mono (by decide)) Z.g_Told (la_cons (le_ix (lv 1) le_int) (la_cons (le_ix (lv 1) le_int) (la_cons (le_ix (lv 1) le_int) (la_cons (le_ix (lv 1) le_int) la_nil))))))) (lss_one (ls_if (lt_cmp (lo_eq (Room.u64 hr)) (le_ix (lv 1) le_int) le_str) (lss_one (ls_set 2 sc__law_claim.nd (le_make Z.mk_Began F_Began_init (hr.mono (by decide)) Z.g_Began (la_cons (le_ix (lv 1) le_int) (la_cons (le_ix (lv 1) le_int) la_nil))))) (lss_one (ls_if (lt_cmp (lo_eq (Room.u64 hr)) (le_ix (lv 1) le_int) le_str) (lss_one (ls_set 2 sc__law_claim.nd (le_make Z.mk_Held F_Held_init (hr.mono (by decide)) Z.g_Held (la_cons (le_ix (lv 1) le_int) la_nil)))) (lss_one (ls_set 2 sc__law_claim.nd (le_make Z.mk_Turned F_Turned_init (hr.mono (by decide)) Z.g_Turned (la_cons (le_ix (lv 1) le_int) (la_cons (le_ix (lv 1) le_int) (la_cons (le_ix (lv 1) le_int) la_nil))))))))))))) (lss_cons (ls_if (lt_val (le_ix (lv 0) le_int)) (lss_one (ls_ret (lv 2))) lss_nil) (lss_one (ls_ret (le_inv Z.own_invert F_Claim_invert (hr.mono (by decide)) (lv 2)))))))
abbrev N__law_clause : List Str := ["_law_fact", "_law_clause_here", "_law_row"]
theorem sc__law_clause : FnScope N__law_clause ["_law_fact"] (defScope (top 69)) := ⟨rfl, rfl, rfl, by decide +kernel, rfl, by decide +kernel, by decide +kernel⟩
def s__law_clause (K : PySem.W.Frag) (a : Ad) (T__law_claim T_Claim_or T_Clause_or : PT1) : SS := sSeq (sSet 1 (sCall T__law_claim (aCons (sBin rhoIx (sVar 0) (sC (.int 0))) (aNil)))) (sSeq (sFor (iLst (sSl (sVar 0) (oSome (sC (.int 1))) (oNo))) (gN 2) (sSet 1 (sBin (rhoU (rhoOr (GOr1 a) T_Claim_or) (rhoOr (GOr2 a) T_Clause_or)) (sVar 1) (sCall T__law_claim (aCons (sVar 2) (aNil)))))) (sRet (sVar 1)))
theorem b__law_clause {P : Program} {w : World} {K : PySem.W.Frag} {mg : Str → Option Value} {base : Heap} {a : Ad} {T__law_claim T_Claim_or T_Clause_or : PT1} (Z : Tx P w K mg a) (F__law_claim : FnQ false P w K mg base 5 (a.g "_law_claim") T__law_claim) (F_Claim_or : FnQ false P w K mg base 4 (a.m "Claim" "__or__") T_Claim_or) (F_Clause_or : FnQ false P w K mg base 4 (a.m "Clause" "__or__") T_Clause_or) : Body false P w K mg base 5 N__law_clause "_law_clause" (defScope (top 69)) (a.g "_law_clause") (defBody (top 69)) (s__law_clause K a T__law_claim T_Claim_or T_Clause_or) := by
  intro cdv A outer st H E hr hg
  exact (lss_cons (ls_set 1 sc__law_clause.nd (le_call F__law_claim (hr.mono (by decide)) Z.g__law_claim Z.k__law_claim (la_cons (le_ix (lv 0) le_int) la_nil))) (lss_cons (ls_for PySem.PassesOwn.never rfl (li_list (le_slice (lv 0) (lo_some le_int) lo_no)) (lg_name 2 sc__law_clause.nd) (lss_one (ls_set 1 sc__law_clause.nd (le_bin (lo_union (lo_or Z.or1 F_Claim_or (hr.mono (by decide))) (lo_or Z.or2 F_Clause_or (hr.mono (by decide)))) (lv 1) (le_call F__law_claim (hr.mono (by decide)) Z.g__law_claim Z.k__law_claim (la_cons (lv 2) la_nil)))))) (lss_one (ls_ret (lv 1)))))
abbrev N__law_build : List Str := ["_law_world_here", "_law_book", "_law_row", "_law_fact", "_law_k"]
theorem sc__law_build : FnScope N__law_build ["_law_world_here"] (defScope (top 70)) := ⟨rfl, rfl, rfl, by decide +kernel, rfl, by decide +kernel, by decide +kernel⟩
def s__law_build (K : PySem.W.Frag) (a : Ad) (T_Book_init T_Book_meet T_Book_may_turn T_Book_fact T__law_clause T_Book_change : PT1) : SS := sSeq (sSet 1 (sMakeK (a.g "Book") 3 1 T_Book_init (sC (.ref (a.g "Book"))) (aCons (sBlt rhoList (aCons (sBin rhoDGet (sVar 0) (sC (.str "people"))) (aNil))) (aCons (sBlt rhoList (aCons (sBin rhoDGet (sVar 0) (sC (.str "versions"))) (aNil))) (aNil))) (aCons (sBin rhoDGet (sVar 0) (sC (.str "last"))) (aNil)))) (sSeq (sFor (iLst (sBin rhoDGet (sVar 0) (sC (.str "meetings")))) (gN 2) (sDrop (sMethK (a.g "Book") "meet" 4 1 T_Book_meet (sVar 1) (aCons (sBin rhoIx (sVar 2) (sC (.int 0))) (aCons (sBin rhoIx (sVar 2) (sC (.int 1))) (aCons (sBin rhoIx (sVar 2) (sC (.int 2))) (aNil)))) (aCons (sBin rhoIx (sVar 2) (sC (.int 3))) (aNil))))) (sSeq (sFor (iLst (sBin rhoDGet (sVar 0) (sC (.str "turns")))) (gN 2) (sDrop (sMeth (a.g "Book") "may_turn" T_Book_may_turn (sVar 1) (aCons (sBin rhoIx (sVar 2) (sC (.int 0))) (aCons (sBin rhoIx (sVar 2) (sC (.int 1))) (aCons (sBin rhoIx (sVar 2) (sC (.int 2))) (aNil))))))) (sSeq (sFor (iLst (sBin rhoDGet (sVar 0) (sC (.str "facts")))) (gN 3) (sDrop (sMeth (a.g "Book") "fact" T_Book_fact (sVar 1) (aCons (sCall T__law_clause (aCons (sVar 3) (aNil))) (aNil))))) (sSeq (sFor (iRange (aCons (sC (.int 4)) (aNil))) (gN 4) (sDrop (sMeth (a.g "Book") "change" T_Book_change (sVar 1) (aCons (sBin rhoIx (sLst (aCons (sC (.str "begins")) (aCons (sC (.str "held")) (aCons (sC (.str "turns")) (aCons (sC (.str "tellers")) (aNil)))))) (sVar 4)) (aCons (sBin rhoIx (sBin rhoDGet (sVar 0) (sC (.str "limits"))) (sVar 4)) (aNil)))))) (sRet (sVar 1))))))
theorem b__law_build {P : Program} {w : World} {K : PySem.W.Frag} {mg : Str → Option Value} {base : Heap} {a : Ad} {T_Book_init T_Book_meet T_Book_may_turn T_Book_fact T__law_clause T_Book_change : PT1} (Z : Tx P w K mg a) (F_Book_init : FnK P w K mg base 4 (a.m "Book" "__init__") 3 ["last"] T_Book_init) (F_Book_meet : FnK P w K mg base 3 (a.m "Book" "meet") 4 ["sure"] T_Book_meet) (F_Book_may_turn : FnQ false P w K mg base 3 (a.m "Book" "may_turn") T_Book_may_turn) (F_Book_fact : FnQ false P w K mg base 6 (a.m "Book" "fact") T_Book_fact) (F__law_clause : FnQ false P w K mg base 6 (a.g "_law_clause") T__law_clause) (F_Book_change : FnQ false P w K mg base 3 (a.m "Book" "change") T_Book_change) : Body false P w K mg base 6 N__law_build "_law_build" (defScope (top 70)) (a.g "_law_build") (defBody (top 70)) (s__law_build K a T_Book_init T_Book_meet T_Book_may_turn T_Book_fact T__law_clause T_Book_change) := by
  intro cdv A outer st H E hr hg
  exact (lss_cons (ls_set 1 sc__law_build.nd (le_makeK (ks := ["last"]) (le_gref Z.g_Book) Z.mk_Book F_Book_init (hr.mono (by decide)) (la_cons (le_bltT lc_list Z.f_list bt_list (la_cons (le_dget (Room.u1 hr) (lv 0) le_str) la_nil)) (la_cons (le_bltT lc_list Z.f_list bt_list (la_cons (le_dget (Room.u1 hr) (lv 0) le_str) la_nil)) la_nil)) (lk_cons (le_dget (Room.u1 hr) (lv 0) le_str) lk_nil))) (lss_cons (ls_for PySem.PassesOwn.never rfl (li_list (le_dget (Room.u1 hr) (lv 0) le_str)) (lg_name 2 sc__law_build.nd) (lss_one (ls_expr (le_methK (ks := ["sure"]) (lv 1) Z.c_Book Z.m_Book_meet F_Book_meet (hr.mono (by decide)) (la_cons (le_ix (lv 2) le_int) (la_cons (le_ix (lv 2) le_int) (la_cons (le_ix (lv 2) le_int) la_nil))) (lk_cons (le_ix (lv 2) le_int) lk_nil))))) (lss_cons (ls_for PySem.PassesOwn.never rfl (li_list (le_dget (Room.u1 hr) (lv 0) le_str)) (lg_name 2 sc__law_build.nd) (lss_one (ls_expr (le_meth (lv 1) Z.c_Book Z.m_Book_may_turn F_Book_may_turn (hr.mono (by decide)) (la_cons (le_ix (lv 2) le_int) (la_cons (le_ix (lv 2) le_int) (la_cons (le_ix (lv 2) le_int) la_nil))))))) (lss_cons (ls_for PySem.PassesOwn.never rfl (li_list (le_dget (Room.u1 hr) (lv 0) le_str)) (lg_name 3 sc__law_build.nd) (lss_one (ls_expr (le_meth (lv 1) Z.c_Book Z.m_Book_fact F_Book_fact (hr.mono (by decide)) (la_cons (le_call F__law_clause (hr.mono (by decide)) Z.g__law_clause Z.k__law_clause (la_cons (lv 3) la_nil)) la_nil))))) (lss_cons (ls_for PySem.PassesOwn.never rfl (li_range rfl Z.f_range (la_cons le_int la_nil)) (lg_name 4 sc__law_build.nd) (lss_one (ls_expr (le_meth (lv 1) Z.c_Book Z.m_Book_change F_Book_change (hr.mono (by decide)) (la_cons (le_ix (le_lst (la_cons le_str (la_cons le_str (la_cons le_str (la_cons le_str la_nil))))) (lv 4)) (la_cons (le_ix (le_dget (Room.u1 hr) (lv 0) le_str) (lv 4)) la_nil)))))) (lss_one (ls_ret (lv 1))))))))
abbrev N__law_lines : List Str := ["_law_world_here", "_law_lines_here", "_law_row", "_law_fact", "_law_k", "_law_count", "_law_word"]
theorem sc__law_lines : FnScope N__law_lines ["_law_world_here"] (defScope (top 71)) := ⟨rfl, rfl, rfl, by decide +kernel, rfl, by decide +kernel, by decide +kernel⟩
def s__law_lines (K : PySem.W.Frag) (a : Ad) (T__law_text : PT1) : SS := sSeq (sSet 1 (sLstM (aCons (sBin rhoAdd (sC (.str "people ")) (sBM isStrD rhoJoin (sC (.str " ")) (aCons (sBin rhoDGet (sVar 0) (sC (.str "people"))) (aNil)))) (aCons (sBin rhoAdd (sC (.str "versions ")) (sBM isStrD rhoJoin (sC (.str " ")) (aCons (sBin rhoDGet (sVar 0) (sC (.str "versions"))) (aNil)))) (aNil))))) (sSeq (sDrop (sBM isLstM rhoApp (sVar 1) (aCons (sBin rhoAdd (sC (.str "last ")) (sBlt rhoStr (aCons (sBin rhoDGet (sVar 0) (sC (.str "last"))) (aNil)))) (aNil)))) (sSeq (sFor (iLst (sBin rhoDGet (sVar 0) (sC (.str "meetings")))) (gN 2) (sDrop (sBM isLstM rhoApp (sVar 1) (aCons (sBM isStrD rhoJoin (sC (.str " ")) (aCons (sLst (aCons (sBin rhoIx (sLst (aCons (sC (.str "maybe")) (aCons (sC (.str "meet")) (aNil)))) (sBlt rhoInt (aCons (sBin rhoIx (sVar 2) (sC (.int 3))) (aNil)))) (aCons (sBlt rhoStr (aCons (sBin rhoIx (sVar 2) (sC (.int 0))) (aNil))) (aCons (sBin rhoIx (sVar 2) (sC (.int 1))) (aCons (sBin rhoIx (sVar 2) (sC (.int 2))) (aNil)))))) (aNil))) (aNil))))) (sSeq (sFor (iLst (sBin rhoDGet (sVar 0) (sC (.str "turns")))) (gN 2) (sDrop (sBM isLstM rhoApp (sVar 1) (aCons (sBin rhoAdd (sC (.str "turn ")) (sBM isStrD rhoJoin (sC (.str " ")) (aCons (sBlt rhoList (aCons (sVar 2) (aNil))) (aNil)))) (aNil))))) (sSeq (sFor (iLst (sBin rhoDGet (sVar 0) (sC (.str "facts")))) (gN 3) (sDrop (sBM isLstM rhoApp (sVar 1) (aCons (sBin rhoAdd (sC (.str "fact ")) (sBM isStrD rhoJoin (sC (.str " or ")) (aCons (sLc (iLst (sVar 3)) (tAll) (sCall T__law_text (aCons (sVar 2) (aNil))) 2) (aNil)))) (aNil))))) (sSeq (sFor (iRange (aCons (sC (.int 4)) (aNil))) (gN 4) (sSeq (sSet 5 (sBin rhoIx (sBin rhoDGet (sVar 0) (sC (.str "limits"))) (sVar 4))) (sSeq (sSet 6 (sC (.str "none"))) (sSeq (sIf (sTest (sBin (rhoIsN true) (sVar 5) (sC .non))) (sSet 6 (sBlt rhoStr (aCons (sVar 5) (aNil)))) (sNext)) (sDrop (sBM isLstM rhoApp (sVar 1) (aCons (sBin rhoAdd (sBin rhoAdd (sBin rhoAdd (sC (.str "limit ")) (sBin rhoIx (sLst (aCons (sC (.str "begins")) (aCons (sC (.str "held")) (aCons (sC (.str "turns")) (aCons (sC (.str "tellers")) (aNil)))))) (sVar 4))) (sC (.str " "))) (sVar 6)) (aNil)))))))) (sFreeze 1 (sRet (sVar 1))))))))
theorem b__law_lines {P : Program} {w : World} {K : PySem.W.Frag} {mg : Str → Option Value} {base : Heap} {a : Ad} {T__law_text : PT1} (Z : Tx P w K mg a) (F__law_text : FnQ false P w K mg base 2 (a.g "_law_text") T__law_text) : Body false P w K mg base 2 N__law_lines "_law_lines" (defScope (top 71)) (a.g "_law_lines") (defBody (top 71)) (s__law_lines K a T__law_text) := by
  intro cdv A outer st H E hr hg
  exact (lss_cons (ls_set 1 sc__law_lines.nd (le_lstM (la_cons (le_bin lo_add le_str (le_join le_str (la_cons (le_dget (Room.u1 hr) (lv 0) le_str) la_nil))) (la_cons (le_bin lo_add le_str (le_join le_str (la_cons (le_dget (Room.u1 hr) (lv 0) le_str) la_nil))) la_nil)))) (lss_cons (ls_expr (le_append (lv 1) (la_cons (le_bin lo_add le_str (le_bltT lc_str Z.f_str bt_str (la_cons (le_dget (Room.u1 hr) (lv 0) le_str) la_nil))) la_nil))) (lss_cons (ls_for PySem.PassesOwn.never rfl (li_list (le_dget (Room.u1 hr) (lv 0) le_str)) (lg_name 2 sc__law_lines.nd) (lss_one (ls_expr (le_append (lv 1) (la_cons (le_join le_str (la_cons (le_lst (la_cons (le_ix (le_lst (la_cons le_str (la_cons le_str la_nil))) (le_bltT lc_int Z.f_int bt_int (la_cons (le_ix (lv 2) le_int) la_nil))) (la_cons (le_bltT lc_str Z.f_str bt_str (la_cons (le_ix (lv 2) le_int) la_nil)) (la_cons (le_ix (lv 2) le_int) (la_cons (le_ix (lv 2) le_int) la_nil))))) la_nil)) la_nil))))) (lss_cons (ls_for PySem.PassesOwn.never rfl (li_list (le_dget (Room.u1 hr) (lv 0) le_str)) (lg_name 2 sc__law_lines.nd) (lss_one (ls_expr (le_append (lv 1) (la_cons (le_bin lo_add le_str (le_join le_str (la_cons (le_bltT lc_list Z.f_list bt_list (la_cons (lv 2) la_nil)) la_nil))) la_nil))))) (lss_cons (ls_for PySem.PassesOwn.never rfl (li_list (le_dget (Room.u1 hr) (lv 0) le_str)) (lg_name 3 sc__law_lines.nd) (lss_one (ls_expr (le_append (lv 1) (la_cons (le_bin lo_add le_str (le_join le_str (la_cons (le_lc rfl sc__law_lines.nd (li_list (lv 3)) (blkok_by (N := N__law_lines) (sc := defScope (top 71)) rfl (by decide +kernel)) (fun s H C cl fp => pg_name sc__law_lines.nd rfl (by first | exact Or.inl rfl | exact Or.inr rfl)) (fun s H C cl fp => pts_all) (fun s H C cl fp => (le_call F__law_text (hr.mono (by decide)) Z.g__law_text Z.k__law_text (la_cons (lv 2) la_nil)))) la_nil))) la_nil))))) (lss_cons (ls_for PySem.PassesOwn.never rfl (li_range rfl Z.f_range (la_cons le_int la_nil)) (lg_name 4 sc__law_lines.nd) (lss_cons (ls_set 5 sc__law_lines.nd (le_ix (le_dget (Room.u1 hr) (lv 0) le_str) (lv 4))) (lss_cons (ls_set 6 sc__law_lines.nd le_str) (lss_cons (ls_if (lt_cmp lo_isnot (lv 5) le_non) (lss_one (ls_set 6 sc__law_lines.nd (le_bltT lc_str Z.f_str bt_str (la_cons (lv 5) la_nil)))) lss_nil) (lss_one (ls_expr (le_append (lv 1) (la_cons (le_bin lo_add (le_bin lo_add (le_bin lo_add le_str (le_ix (le_lst (la_cons le_str (la_cons le_str (la_cons le_str (la_cons le_str la_nil))))) (lv 4))) le_str) (lv 6)) la_nil)))))))) (lss_freeze 1 (lss_one (ls_ret (lv 1))))))))))
abbrev N__law_fact_shows : List Str := ["_law_clause_here", "_law_fact", "_law_claims", "_law_k"]
theorem sc__law_fact_shows : FnScope N__law_fact_shows ["_law_clause_here", "_law_fact"] (defScope (top 72)) := ⟨rfl, rfl, rfl, by decide +kernel, rfl, by decide +kernel, by decide +kernel⟩
def s__law_fact_shows (K : PySem.W.Frag) (a : Ad) (T_Clause_claims T__law_same : PT1) : SS := sSeq (sSet 2 (sMeth (a.g "Clause") "claims" T_Clause_claims (sVar 0) aNil)) (sSeq (sIf (sOr (sNot (sTest (sBlt (rhoIsi K) (aCons (sVar 0) (aCons (sC (.ref (a.g "Clause"))) (aNil)))))) (sTest (sBin (rhoEq true) (sBlt rhoLen (aCons (sVar 2) (aNil))) (sBlt rhoLen (aCons (sVar 1) (aNil)))))) (sRet (sC (.bl false))) (sNext)) (sRet (sBin (rhoIn true) (sC (.bl false)) (sLc (iRange (aCons (sBlt rhoLen (aCons (sVar 1) (aNil))) (aNil))) (tAll) (sCall T__law_same (aCons (sBin rhoIx (sVar 2) (sVar 3)) (aCons (sBin rhoIx (sVar 1) (sVar 3)) (aNil)))) 3))))
theorem b__law_fact_shows {P : Program} {w : World} {K : PySem.W.Frag} {mg : Str → Option Value} {base : Heap} {a : Ad} {T_Clause_claims T__law_same : PT1} (Z : Tx P w K mg a) (F_Clause_claims : FnQ false P w K mg base 2 (a.m "Clause" "claims") T_Clause_claims) (F__law_same : FnQ true P w K mg base 3 (a.g "_law_same") T__law_same) : Body true P w K mg base 3 N__law_fact_shows "_law_fact_shows" (defScope (top 72)) (a.g "_law_fact_shows") (defBody (top 72)) (s__law_fact_shows K a T_Clause_claims T__law_same) := by
  intro cdv A outer st H E hr hg
  exact (lss_cons (ls_set 2 sc__law_fact_shows.nd (le_meth0 (lv 0) Z.c_Clause Z.m_Clause_claims F_Clause_claims (hr.mono (by decide)))) (lss_cons (ls_if (lw_pt (lw_or (lt_not (lt_val (le_blt lc_isi Z.f_isinstance bt_isinstance (la_cons (lv 0) (la_cons (le_gref Z.g_Clause) la_nil))))) (lw_or1 (lt_cmp (lo_ne (Room.u64 hr)) (le_blt lc_len Z.f_len bt_len (la_cons (lv 2) la_nil)) (le_blt lc_len Z.f_len bt_len (la_cons (lv 1) la_nil)))))) (lss_one (ls_ret le_bl)) lss_nil) (lss_one (ls_ret (le_cmp (lo_notin (Room.u65 hr)) le_bl (le_lc rfl sc__law_fact_shows.nd (li_range rfl Z.f_range (la_cons (le_blt lc_len Z.f_len bt_len (la_cons (lv 1) la_nil)) la_nil)) (blkok_by (N := N__law_fact_shows) (sc := defScope (top 72)) rfl (by decide +kernel)) (fun s H C cl fp => pg_name sc__law_fact_shows.nd rfl (by first | exact Or.inl rfl | exact Or.inr rfl)) (fun s H C cl fp => pts_all) (fun s H C cl fp => (le_call F__law_same (hr.mono (by decide)) Z.g__law_same Z.k__law_same (la_cons (le_ix (lv 2) (lv 3)) (la_cons (le_ix (lv 1) (lv 3)) la_nil)) (fun _ => hg rfl)))))))))
abbrev N__law_within : List Str := ["_law_book", "_law_world_here", "_law_rows", "_law_plain", "_law_row", "_law_fact"]
theorem sc__law_within : FnScope N__law_within ["_law_book", "_law_world_here", "_law_rows"] (defScope (top 73)) := ⟨rfl, rfl, rfl, by decide +kernel, rfl, by decide +kernel, by decide +kernel⟩
def s__law_within (K : PySem.W.Frag) (a : Ad) (T_Book_contains T__law_claim : PT1) : SS := sSeq (sSet 3 (sLc (iLst (sBin rhoDGet (sVar 1) (sC (.str "facts")))) (sTest (sBin (rhoEq false) (sBlt rhoLen (aCons (sVar 5) (aNil))) (sC (.int 1)))) (sBin rhoIx (sVar 5) (sC (.int 0))) 5)) (sSeq (sFor (iLst (sVar 2)) (gN 4) (sIf (sTest (sBin (rhoEq true) (sBin (rhoInO (GBook a) T_Book_contains) (sCall T__law_claim (aCons (sVar 4) (aNil))) (sVar 0)) (sBin (rhoIn false) (sVar 4) (sVar 3)))) (sRet (sC (.bl false))) (sNext))) (sRet (sC (.bl true))))
theorem b__law_within {P : Program} {w : World} {K : PySem.W.Frag} {mg : Str → Option Value} {base : Heap} {a : Ad} {T_Book_contains T__law_claim : PT1} (Z : Tx P w K mg a) (F_Book_contains : FnQ false P w K mg base 3 (a.m "Book" "__contains__") T_Book_contains) (F__law_claim : FnQ false P w K mg base 5 (a.g "_law_claim") T__law_claim) : Body false P w K mg base 5 N__law_within "_law_within" (defScope (top 73)) (a.g "_law_within") (defBody (top 73)) (s__law_within K a T_Book_contains T__law_claim) := by
  intro cdv A outer st H E hr hg
  exact (lss_cons (ls_setLc (i := 3) rfl sc__law_within.nd rfl rfl rfl (li_list (le_dget (Room.u1 hr) (lv 1) le_str)) (blkok_by (N := N__law_within) (sc := defScope (top 73)) rfl (by decide +kernel)) (fun s H C cl fp => pg_name sc__law_within.nd rfl (by first | exact Or.inl rfl | exact Or.inr rfl)) (fun s H C cl fp => pts_lt (lt_cmp (lo_eq (Room.u64 hr)) (le_blt lc_len Z.f_len bt_len (la_cons (lv 5) la_nil)) le_int)) (fun s H C cl fp => (le_ix (lv 5) le_int))) (lss_cons (ls_for PySem.PassesOwn.never rfl (li_list (lv 2)) (lg_name 4 sc__law_within.nd) (lss_one (ls_if (lt_cmp (lo_ne (Room.u64 hr)) (le_cmp (lo_inO Z.own_contains F_Book_contains (hr.mono (by decide))) (le_call F__law_claim (hr.mono (by decide)) Z.g__law_claim Z.k__law_claim (la_cons (lv 4) la_nil)) (lv 0)) (le_cmp (lo_in (Room.u65 hr)) (lv 4) (lv 3))) (lss_one (ls_ret le_bl)) lss_nil))) (lss_one (ls_ret le_bl))))
abbrev N__law_shows : List Str := ["_law_book", "_law_world_here", "_law_facts_here", "_law_fact", "_law_k", "_law_row"]
theorem sc__law_shows : FnScope N__law_shows ["_law_book", "_law_world_here"] (defScope (top 74)) := ⟨rfl, rfl, rfl, by decide +kernel, rfl, by decide +kernel, by decide +kernel⟩
def s__law_shows (K : PySem.W.Frag) (a : Ad) (T_Book_people T_Book_versions T_Book_meetings T_Book_turns T_Book_limits T_Book_begin_limit T_Book_len T_Book_facts T_Book_text T__law_lines T__law_within T__law_fact_shows : PT1) : SS := sSeq (sIf (sOr (sTest (sBin (rhoEq true) (sBlt rhoRepr (aCons (sMeth (a.g "Book") "people" T_Book_people (sVar 0) aNil) (aNil))) (sBlt rhoRepr (aCons (sBin rhoDGet (sVar 1) (sC (.str "people"))) (aNil))))) (sTest (sBin (rhoEq true) (sBlt rhoRepr (aCons (sMeth (a.g "Book") "versions" T_Book_versions (sVar 0) aNil) (aNil))) (sBlt rhoRepr (aCons (sBin rhoDGet (sVar 1) (sC (.str "versions"))) (aNil)))))) (sRet (sC (.bl false))) (sNext)) (sSeq (sIf (sOr (sTest (sBin (rhoEq true) (sBlt rhoRepr (aCons (sFld (GBook a) "last_day" (sVar 0)) (aNil))) (sBlt rhoRepr (aCons (sBin rhoDGet (sVar 1) (sC (.str "last"))) (aNil))))) (sTest (sBin (rhoEq true) (sBlt rhoRepr (aCons (sMeth (a.g "Book") "meetings" T_Book_meetings (sVar 0) aNil) (aNil))) (sBlt rhoRepr (aCons (sBin rhoDGet (sVar 1) (sC (.str "meetings"))) (aNil)))))) (sRet (sC (.bl false))) (sNext)) (sSeq (sIf (sOr (sTest (sBin (rhoEq true) (sBlt rhoRepr (aCons (sMeth (a.g "Book") "turns" T_Book_turns (sVar 0) aNil) (aNil))) (sBlt rhoRepr (aCons (sBin rhoDGet (sVar 1) (sC (.str "turns"))) (aNil))))) (sTest (sBin (rhoEq true) (sBlt rhoRepr (aCons (sMeth (a.g "Book") "limits" T_Book_limits (sVar 0) aNil) (aNil))) (sBlt rhoRepr (aCons (sBlt rhoTuple (aCons (sBin rhoDGet (sVar 1) (sC (.str "limits"))) (aNil))) (aNil)))))) (sRet (sC (.bl false))) (sNext)) (sSeq (sIf (sOr (sTest (sBin (rhoEq true) (sBlt rhoRepr (aCons (sProp (a.g "Book") T_Book_begin_limit (sVar 0)) (aNil))) (sBlt rhoRepr (aCons (sBin rhoIx (sBin rhoDGet (sVar 1) (sC (.str "limits"))) (sC (.int 0))) (aNil))))) (sTest (sBin (rhoEq true) (sBlt (rhoLenO (GBook a) T_Book_len) (aCons (sVar 0) (aNil))) (sBlt rhoLen (aCons (sBin rhoDGet (sVar 1) (sC (.str "facts"))) (aNil)))))) (sRet (sC (.bl false))) (sNext)) (sSeq (sSet 2 (sMeth (a.g "Book") "facts" T_Book_facts (sVar 0) aNil)) (sSeq (sIf (sOr (sNot (sTest (sBlt (rhoIsi K) (aCons (sVar 2) (aCons (sC (.ty "list")) (aNil)))))) (sTest (sBin (rhoEq true) (sBlt rhoLen (aCons (sVar 2) (aNil))) (sBlt rhoLen (aCons (sBin rhoDGet (sVar 1) (sC (.str "facts"))) (aNil)))))) (sRet (sC (.bl false))) (sNext)) (sSeq (sIf (sTest (sBin (rhoEq true) (sMeth (a.g "Book") "text" T_Book_text (sVar 0) aNil) (sBM isStrD rhoJoin (sC (.str "\n")) (aCons (sCall T__law_lines (aCons (sVar 1) (aNil))) (aNil))))) (sRet (sC (.bl false))) (sNext)) (sSeq (sFor (iLst (sBin rhoDGet (sVar 1) (sC (.str "facts")))) (gN 3) (sIf (sNot (sTest (sCall T__law_within (aCons (sVar 0) (aCons (sVar 1) (aCons (sBin rhoAdd (sVar 3) (sLc (iLst (sVar 3)) (tAll) (sTup (aCons (sNotV (sBin rhoIx (sVar 5) (sC (.int 0)))) (aCons (sBin rhoIx (sVar 5) (sC (.int 1))) (aNil)))) 5)) (aNil))))))) (sRet (sC (.bl false))) (sNext))) (sRet (sBin (rhoIn true) (sC (.bl false)) (sLc (iRange (aCons (sBlt rhoLen (aCons (sVar 2) (aNil))) (aNil))) (tAll) (sCall T__law_fact_shows (aCons (sBin rhoIx (sVar 2) (sVar 4)) (aCons (sBin rhoIx (sBin rhoDGet (sVar 1) (sC (.str "facts"))) (sVar 4)) (aNil)))) 4))))))))))
theorem b__law_shows {P : Program} {w : World} {K : PySem.W.Frag} {mg : Str → Option Value} {base : Heap} {a : Ad} {T_Book_people T_Book_versions T_Book_meetings T_Book_turns T_Book_limits T_Book_begin_limit T_Book_len T_Book_facts T_Book_text T__law_lines T__law_within T__law_fact_shows : PT1} (Z : Tx P w K mg a) (F_Book_people : FnQ false P w K mg base 2 (a.m "Book" "people") T_Book_people) (F_Book_versions : FnQ false P w K mg base 2 (a.m "Book" "versions") T_Book_versions) (F_Book_meetings : FnQ false P w K mg base 2 (a.m "Book" "meetings") T_Book_meetings) (F_Book_turns : FnQ false P w K mg base 2 (a.m "Book" "turns") T_Book_turns) (F_Book_limits : FnQ false P w K mg base 2 (a.m "Book" "limits") T_Book_limits) (F_Book_begin_limit : FnQ false P w K mg base 2 (a.m "Book" "begin_limit") T_Book_begin_limit) (F_Book_len : FnQ false P w K mg base 2 (a.m "Book" "__len__") T_Book_len) (F_Book_facts : FnQ false P w K mg base 2 (a.m "Book" "facts") T_Book_facts) (F_Book_text : FnQ false P w K mg base 9 (a.m "Book" "text") T_Book_text) (F__law_lines : FnQ false P w K mg base 3 (a.g "_law_lines") T__law_lines) (F__law_within : FnQ false P w K mg base 6 (a.g "_law_within") T__law_within) (F__law_fact_shows : FnQ true P w K mg base 4 (a.g "_law_fact_shows") T__law_fact_shows) : Body true P w K mg base 9 N__law_shows "_law_shows" (defScope (top 74)) (a.g "_law_shows") (defBody (top 74)) (s__law_shows K a T_Book_people T_Book_versions T_Book_meetings T_Book_turns T_Book_limits T_Book_begin_limit T_Book_len T_Book_facts T_Book_text T__law_lines T__law_within T__law_fact_shows) := by
  intro cdv A outer st H E hr hg
  exact (lss_cons (ls_if (lw_pt (lw_or (lt_cmp (lo_ne (Room.u64 hr)) (le_blt (lc_repr (hg rfl) (Room.u64 hr)) Z.f_repr bt_repr (la_cons (le_meth0 (lv 0) Z.c_Book Z.m_Book_people F_Book_people (hr.mono (by decide))) la_nil)) (le_blt (lc_repr (hg rfl) (Room.u64 hr)) Z.f_repr bt_repr (la_cons (le_dget (Room.u1 hr) (lv 1) le_str) la_nil))) (lw_or1 (lt_cmp (lo_ne (Room.u64 hr)) (le_blt (lc_repr (hg rfl) (Room.u64 hr)) Z.f_repr bt_repr (la_cons (le_meth0 (lv 0) Z.c_Book Z.m_Book_versions F_Book_versions (hr.mono (by decide))) la_nil)) (le_blt (lc_repr (hg rfl) (Room.u64 hr)) Z.f_repr bt_repr (la_cons (le_dget (Room.u1 hr) (lv 1) le_str) la_nil)))))) (lss_one (ls_ret le_bl)) lss_nil) (lss_cons (ls_if (lw_pt (lw_or (lt_cmp (lo_ne (Room.u64 hr)) (le_blt (lc_repr (hg rfl) (Room.u64 hr)) Z.f_repr bt_repr (la_cons (le_fld Z.a_last_day (lv 0)) la_nil)) (le_blt (lc_repr (hg rfl) (Room.u64 hr)) Z.f_repr bt_repr (la_cons (le_dget (Room.u1 hr) (lv 1) le_str) la_nil))) (lw_or1 (lt_cmp (lo_ne (Room.u64 hr)) (le_blt (lc_repr (hg rfl) (Room.u64 hr)) Z.f_repr bt_repr (la_cons (le_meth0 (lv 0) Z.c_Book Z.m_Book_meetings F_Book_meetings (hr.mono (by decide))) la_nil)) (le_blt (lc_repr (hg rfl) (Room.u64 hr)) Z.f_repr bt_repr (la_cons (le_dget (Room.u1 hr) (lv 1) le_str) la_nil)))))) (lss_one (ls_ret le_bl)) lss_nil) (lss_cons (ls_if (lw_pt (lw_or (lt_cmp (lo_ne (Room.u64 hr)) (le_blt (lc_repr (hg rfl) (Room.u64 hr)) Z.f_repr bt_repr (la_cons (le_meth0 (lv 0) Z.c_Book Z.m_Book_turns F_Book_turns (hr.mono (by decide))) la_nil)) (le_blt (lc_repr (hg rfl) (Room.u64 hr)) Z.f_repr bt_repr (la_cons (le_dget (Room.u1 hr) (lv 1) le_str) la_nil))) (lw_or1 (lt_cmp (lo_ne (Room.u64 hr)) (le_blt (lc_repr (hg rfl) (Room.u64 hr)) Z.f_repr bt_repr (la_cons (le_meth0 (lv 0) Z.c_Book Z.m_Book_limits F_Book_limits (hr.mono (by decide))) la_nil)) (le_blt (lc_repr (hg rfl) (Room.u64 hr)) Z.f_repr bt_repr (la_cons (le_bltT lc_tuple Z.f_tuple bt_tuple (la_cons (le_dget (Room.u1 hr) (lv 1) le_str) la_nil)) la_nil)))))) (lss_one (ls_ret le_bl)) lss_nil) (lss_cons (ls_if (lw_pt (lw_or (lt_cmp (lo_ne (Room.u64 hr)) (le_blt (lc_repr (hg rfl) (Room.u64 hr)) Z.f_repr bt_repr (la_cons (le_propI (lv 0) Z.c_Book Z.prop_begin F_Book_begin_limit (hr.mono (by decide))) la_nil)) (le_blt (lc_repr (hg rfl) (Room.u64 hr)) Z.f_repr bt_repr (la_cons (le_ix (le_dget (Room.u1 hr) (lv 1) le_str) le_int) la_nil))) (lw_or1 (lt_cmp (lo_ne (Room.u64 hr)) (le_blt (lc_lenO Z.own_len_Book F_Book_len (hr.mono (by decide))) Z.f_len bt_len (la_cons (lv 0) la_nil)) (le_blt lc_len Z.f_len bt_len (la_cons (le_dget (Room.u1 hr) (lv 1) le_str) la_nil)))))) (lss_one (ls_ret le_bl)) lss_nil) (lss_cons (ls_set 2 sc__law_shows.nd (le_meth0 (lv 0) Z.c_Book Z.m_Book_facts F_Book_facts (hr.mono (by decide)))) (lss_cons (ls_if (lw_pt (lw_or (lt_not (lt_val (le_blt lc_isi Z.f_isinstance bt_isinstance (la_cons (lv 2) (la_cons (le_bty Z.f_list bt_list) la_nil))))) (lw_or1 (lt_cmp (lo_ne (Room.u64 hr)) (le_blt lc_len Z.f_len bt_len (la_cons (lv 2) la_nil)) (le_blt lc_len Z.f_len bt_len (la_cons (le_dget (Room.u1 hr) (lv 1) le_str) la_nil)))))) (lss_one (ls_ret le_bl)) lss_nil) (lss_cons (ls_if (lt_cmp (lo_ne (Room.u64 hr)) (le_meth0 (lv 0) Z.c_Book Z.m_Book_text F_Book_text (hr.mono (by decide))) (le_join le_str (la_cons (le_call F__law_lines (hr.mono (by decide)) Z.g__law_lines Z.k__law_lines (la_cons (lv 1) la_nil)) la_nil))) (lss_one (ls_ret le_bl)) lss_nil) (lss_cons (ls_for PySem.PassesOwn.never rfl (li_list (le_dget (Room.u1 hr) (lv 1) le_str)) (lg_name 3 sc__law_shows.nd) (lss_one (ls_if (lt_not (lt_val (le_call F__law_within (hr.mono (by decide)) Z.g__law_within Z.k__law_within (la_cons (lv 0) (la_cons (lv 1) (la_cons (le_bin lo_add (lv 3) (le_lc rfl sc__law_shows.nd (li_list (lv 3)) (blkok_by (N := N__law_shows) (sc := defScope (top 74)) rfl (by decide +kernel)) (fun s H C cl fp => pg_name sc__law_shows.nd rfl (by first | exact Or.inl rfl | exact Or.inr rfl)) (fun s H C cl fp => pts_all) (fun s H C cl fp => (le_tup (la_cons (le_not (le_ix (lv 5) le_int)) (la_cons (le_ix (lv 5) le_int) la_nil)))))) la_nil)))))) (lss_one (ls_ret le_bl)) lss_nil))) (lss_one (ls_ret (le_cmp (lo_notin (Room.u65 hr)) le_bl (le_lc rfl sc__law_shows.nd (li_range rfl Z.f_range (la_cons (le_blt lc_len Z.f_len bt_len (la_cons (lv 2) la_nil)) la_nil)) (blkok_by (N := N__law_shows) (sc := defScope (top 74)) rfl (by decide +kernel)) (fun s H C cl fp => pg_name sc__law_shows.nd rfl (by first | exact Or.inl rfl | exact Or.inr rfl)) (fun s H C cl fp => pts_all) (fun s H C cl fp => (le_call F__law_fact_shows (hr.mono (by decide)) Z.g__law_fact_shows Z.k__law_fact_shows (la_cons (le_ix (lv 2) (lv 4)) (la_cons (le_ix (le_dget (Room.u1 hr) (lv 1) le_str) (lv 4)) la_nil)) (fun _ => hg rfl)))))))))))))))
abbrev N__law_nothing : List Str := ["_law_book"]
theorem sc__law_nothing : FnScope N__law_nothing ["_law_book"] (defScope (top 75)) := ⟨rfl, rfl, rfl, by decide +kernel, rfl, by decide +kernel, by decide +kernel⟩
def s__law_nothing (K : PySem.W.Frag) (a : Ad) (U_undo : List D → Mem → Prop) : SS := sSeq (sCaught (a.g "Book") "undo" U_undo (sVar 0)) (sRet (sC (.bl false)))
theorem b__law_nothing {P : Program} {w : World} {K : PySem.W.Frag} {mg : Str → Option Value} {base : Heap} {a : Ad} (Z : Tx P w K mg a)  {U_undo : List D → Mem → Prop} {fdU : FuncData} (F_undo : FnOk P w K mg base (L2.CX P w) 2 (a.m "Book" "undo") fdU ["self"] (SpU K (a.g "NothingToUndo") U_undo)) (B_undo : Binds K fdU ["self"] []) : Body false P w K mg base 2 N__law_nothing "_law_nothing" (defScope (top 75)) (a.g "_law_nothing") (defBody (top 75)) (s__law_nothing K a U_undo) := by
  intro cdv A outer st H E hr hg
  exact (lss_cons (ls_caught rfl rfl F_undo (hr.mono (by decide)) B_undo Z.c_Book Z.m_Book_undo Z.g_NothingToUndo rfl rfl Z.exm_nothing (fun pn xe => (lv 0))) (lss_one (ls_ret le_bl)))
abbrev N_law : List Str := ["_law_script", "_law_box_here", "_law_world_here", "_law_lines_here", "_law_text_here", "_law_book", "_law_middle", "_law_final", "_law_rest", "_law_limits_here", "_law_moved", "_law_other"]
theorem sc_law : FnScope N_law ["_law_script"] (defScope (top 76)) := ⟨rfl, rfl, rfl, by decide +kernel, rfl, by decide +kernel, by decide +kernel⟩
def s_law (K : PySem.W.Frag) (a : Ad) (T__law_box T__law_world T__law_limits T__law_lines T_Book_read T__law_shows T_Book_text T__law_nothing T__law_build T__law_take : PT1) : SS := sSeq (sSet 1 (sCall T__law_box (aCons (sVar 0) (aNil)))) (sSeq (sSet 2 (sCall T__law_world (aCons (sVar 1) (aCons (sC (.int 5)) (aCons (sC (.int 29)) (aCons (sC (.int 7)) (aCons (sC (.int 4)) (aCons (sC (.int 2)) (aNil))))))))) (sSeq (sDrop (sCall T__law_limits (aCons (sVar 1) (aCons (sVar 2) (aNil))))) (sSeq (sSet 3 (sCall T__law_lines (aCons (sVar 2) (aNil)))) (sSeq (sSet 4 (sBM isStrD rhoJoin (sC (.str "\n")) (aCons (sVar 3) (aNil)))) (sSeq (sSet 5 (sCMeth (a.g "Book") T_Book_read (sC (.ref (a.g "Book"))) (aCons (sVar 4) (aNil)))) (sSeq (sIf (sOr (sNot (sTest (sBlt (rhoIsi K) (aCons (sVar 5) (aCons (sC (.ref (a.g "Book"))) (aNil)))))) (sOr (sNot (sTest (sCall T__law_shows (aCons (sVar 5) (aCons (sVar 2) (aNil)))))) (sOr (sTest (sBin (rhoEq true) (sMeth (a.g "Book") "text" T_Book_text (sVar 5) aNil) (sVar 4))) (sNot (sTest (sCall T__law_nothing (aCons (sVar 5) (aNil)))))))) (sRet (sC (.bl false))) (sNext)) (sSeq (sIf (sNot (sTest (sCall T__law_shows (aCons (sCMeth (a.g "Book") T_Book_read (sC (.ref (a.g "Book"))) (aCons (sMeth (a.g "Book") "text" T_Book_text (sCall T__law_build (aCons (sVar 2) (aNil))) aNil) (aNil))) (aCons (sVar 2) (aNil)))))) (sRet (sC (.bl false))) (sNext)) (sSeq (sSet 6 (sBin rhoAdd (sC (.int 3)) (sBlt rhoLen (aCons (sBin rhoDGet (sVar 2) (sC (.str "meetings"))) (aNil))))) (sSeq (sSet 7 (sBin rhoAdd (sVar 6) (sBlt rhoLen (aCons (sBin rhoDGet (sVar 2) (sC (.str "turns"))) (aNil))))) (sSeq (sSet 8 (sBin rhoSub (sBlt rhoLen (aCons (sVar 3) (aNil))) (sC (.int 4)))) (sSeq (sSet 9 (sSl (sVar 3) (oSome (sVar 8)) (oNo))) (sSeq (sIf (sTest (sBin (rhoEq false) (sCall T__law_take (aCons (sVar 1) (aCons (sC (.int 3)) (aNil)))) (sC (.int 1)))) (sSeq (sSet 9 (sSl (sVar 9) (oSome (sC (.int 1))) (oNo))) (sDictSet (sVar 2) (sC (.str "limits")) (sBin rhoAdd (sLst (aCons (sC (.int 1)) (aNil))) (sSl (sBin rhoDGet (sVar 2) (sC (.str "limits"))) (oSome (sC (.int 1))) (oNo))))) (sNext)) (sSeq (sSet 10 (sBin rhoAdd (sBin rhoAdd (sBin rhoAdd (sBin rhoAdd (sSl (sVar 3) (oNo) (oSome (sC (.int 3)))) (sVar 9)) (sSl (sVar 3) (oSome (sC (.int 3))) (oSome (sVar 6)))) (sSl (sVar 3) (oSome (sVar 7)) (oSome (sVar 8)))) (sSl (sVar 3) (oSome (sVar 6)) (oSome (sVar 7))))) (sSeq (sSet 11 (sCMeth (a.g "Book") T_Book_read (sC (.ref (a.g "Book"))) (aCons (sBM isStrD rhoJoin (sC (.str "\n")) (aCons (sVar 10) (aNil))) (aNil)))) (sRet (sAndV (sCall T__law_shows (aCons (sVar 11) (aCons (sVar 2) (aNil)))) (sAndV (sCall T__law_nothing (aCons (sVar 11) (aNil))) (sBin (rhoEq false) (sMeth (a.g "Book") "text" T_Book_text (sVar 11) aNil) (sBM isStrD rhoJoin (sC (.str "\n")) (aCons (sCall T__law_lines (aCons (sVar 2) (aNil))) (aNil)))))))))))))))))))))
theorem b_law {P : Program} {w : World} {K : PySem.W.Frag} {mg : Str → Option Value} {base : Heap} {a : Ad} {T__law_box T__law_world T__law_limits T__law_lines T_Book_read T__law_shows T_Book_text T__law_nothing T__law_build T__law_take : PT1} (Z : Tx P w K mg a) (F__law_box : FnQ false P w K mg base 2 (a.g "_law_box") T__law_box) (F__law_world : FnQ false P w K mg base 6 (a.g "_law_world") T__law_world) (F__law_limits : FnQ false P w K mg base 3 (a.g "_law_limits") T__law_limits) (F__law_lines : FnQ false P w K mg base 3 (a.g "_law_lines") T__law_lines) (F_Book_read : FnQ false P w K mg base 8 (a.m "Book" "read") T_Book_read) (F__law_shows : FnQ true P w K mg base 10 (a.g "_law_shows") T__law_shows) (F_Book_text : FnQ false P w K mg base 9 (a.m "Book" "text") T_Book_text) (F__law_nothing : FnQ false P w K mg base 3 (a.g "_law_nothing") T__law_nothing) (F__law_build : FnQ false P w K mg base 7 (a.g "_law_build") T__law_build) (F__law_take : FnQ false P w K mg base 2 (a.g "_law_take") T__law_take) : Body true P w K mg base 10 N_law "law" (defScope (top 76)) (a.g "law") (defBody (top 76)) (s_law K a T__law_box T__law_world T__law_limits T__law_lines T_Book_read T__law_shows T_Book_text T__law_nothing T__law_build T__law_take) := by
  intro cdv A outer st H E hr hg
  exact (lss_cons (ls_set 1 sc_law.nd (le_call F__law_box (hr.mono (by decide)) Z.g__law_box Z.k__law_box (la_cons (lv 0) la_nil))) (lss_cons (ls_set 2 sc_law.nd (le_call F__law_world (hr.mono (by decide)) Z.g__law_world Z.k__law_world (la_cons (lv 1) (la_cons le_int (la_cons le_int (la_cons le_int (la_cons le_int (la_cons le_int la_nil)))))))) (lss_cons (ls_expr (le_call F__law_limits (hr.mono (by decide)) Z.g__law_limits Z.k__law_limits (la_cons (lv 1) (la_cons (lv 2) la_nil)))) (lss_cons (ls_set 3 sc_law.nd (le_call F__law_lines (hr.mono (by decide)) Z.g__law_lines Z.k__law_lines (la_cons (lv 2) la_nil))) (lss_cons (ls_set 4 sc_law.nd (le_join le_str (la_cons (lv 3) la_nil))) (lss_cons (ls_set 5 sc_law.nd (by obtain ⟨mc, q, cr, cm⟩ := Z.cm_read; exact le_cmeth (le_gref Z.g_Book) cr cm F_Book_read (hr.mono (by decide)) (la_cons (lv 4) la_nil))) (lss_cons (ls_if (lw_pt (lw_or (lt_not (lt_val (le_blt lc_isi Z.f_isinstance bt_isinstance (la_cons (lv 5) (la_cons (le_gref Z.g_Book) la_nil))))) (lw_or (lt_not (lt_val (le_call F__law_shows (hr.mono (by decide)) Z.g__law_shows Z.k__law_shows (la_cons (lv 5) (la_cons (lv 2) la_nil)) (fun _ => hg rfl)))) (lw_or (lt_cmp (lo_ne (Room.u64 hr)) (le_meth0 (lv 5) Z.c_Book Z.m_Book_text F_Book_text (hr.mono (by decide))) (lv 4)) (lw_or1 (lt_not (lt_val (le_call F__law_nothing (hr.mono (by decide)) Z.g__law_nothing Z.k__law_nothing (la_cons (lv 5) la_nil))))))))) (lss_one (ls_ret le_bl)) lss_nil) (lss_cons (ls_if (lt_not (lt_val (le_call F__law_shows (hr.mono (by decide)) Z.g__law_shows Z.k__law_shows (la_cons (by obtain ⟨mc, q, cr, cm⟩ := Z.cm_read; exact le_cmeth (le_gref Z.g_Book) cr cm F_Book_read (hr.mono (by decide)) (la_cons (le_meth0 (le_call F__law_build (hr.mono (by decide)) Z.g__law_build Z.k__law_build (la_cons (lv 2) la_nil)) Z.c_Book Z.m_Book_text F_Book_text (hr.mono (by decide))) la_nil)) (la_cons (lv 2) la_nil)) (fun _ => hg rfl)))) (lss_one (ls_ret le_bl)) lss_nil) (lss_cons (ls_set 6 sc_law.nd (le_bin lo_add le_int (le_blt lc_len Z.f_len bt_len (la_cons (le_dget (Room.u1 hr) (lv 2) le_str) la_nil)))) (lss_cons (ls_set 7 sc_law.nd (le_bin lo_add (lv 6) (le_blt lc_len Z.f_len bt_len (la_cons (le_dget (Room.u1 hr) (lv 2) le_str) la_nil)))) (lss_cons (ls_set 8 sc_law.nd (le_bin lo_sub (le_blt lc_len Z.f_len bt_len (la_cons (lv 3) la_nil)) le_int)) (lss_cons (ls_set 9 sc_law.nd (le_slice (lv 3) (lo_some (lv 8)) lo_no)) (lss_cons (ls_if (lt_cmp (lo_eq (Room.u64 hr)) (le_call F__law_take (hr.mono (by decide)) Z.g__law_take Z.k__law_take (la_cons (lv 1) (la_cons le_int la_nil))) le_int) (lss_cons (ls_set 9 sc_law.nd (le_slice (lv 9) (lo_some le_int) lo_no)) (lss_one (ls_dput (Room.u1 hr) (lv 2) le_str (le_bin lo_add (le_lst (la_cons le_int la_nil)) (le_slice (le_dget (Room.u1 hr) (lv 2) le_str) (lo_some le_int) lo_no))))) lss_nil) (lss_cons (ls_set 10 sc_law.nd (le_bin lo_add (le_bin lo_add (le_bin lo_add (le_bin lo_add (le_slice (lv 3) lo_no (lo_some le_int)) (lv 9)) (le_slice (lv 3) (lo_some le_int) (lo_some (lv 6)))) (le_slice (lv 3) (lo_some (lv 7)) (lo_some (lv 8)))) (le_slice (lv 3) (lo_some (lv 6)) (lo_some (lv 7))))) (lss_cons (ls_set 11 sc_law.nd (by obtain ⟨mc, q, cr, cm⟩ := Z.cm_read; exact le_cmeth (le_gref Z.g_Book) cr cm F_Book_read (hr.mono (by decide)) (la_cons (le_join le_str (la_cons (lv 10) la_nil)) la_nil))) (lss_one (ls_ret (le_and (le_call F__law_shows (hr.mono (by decide)) Z.g__law_shows Z.k__law_shows (la_cons (lv 11) (la_cons (lv 2) la_nil)) (fun _ => hg rfl)) (le_and (le_call F__law_nothing (hr.mono (by decide)) Z.g__law_nothing Z.k__law_nothing (la_cons (lv 11) la_nil)) (le_one (le_cmp (lo_eq (Room.u64 hr)) (le_meth0 (lv 11) Z.c_Book Z.m_Book_text F_Book_text (hr.mono (by decide))) (le_join le_str (la_cons (le_call F__law_lines (hr.mono (by decide)) Z.g__law_lines Z.k__law_lines (la_cons (lv 2) la_nil)) la_nil)))))))))))))))))))))))
end HB
set_option Elab.async false
set_option linter.all false
set_option maxRecDepth 100000
set_option maxHeartbeats 4000000
/-! plain data of books, claims, worlds; what each def promises -/
namespace HB
open PySem L2
abbrev lettersS : Str := "abcdefghijklmnopqrstuvwxyz"
abbrev digitsS : Str := "0123456789"
structure NameOK (z : Str) : Prop where
  len : z.length ≤ 8
  res : z ∉ (["any", "end", "none", "not", "or"] : List Str)
  first : ∃ c, z.cps.toList[0]? = some c ∧ c ∈ lettersS.cps.toList
  all : ∀ c ∈ z.cps.toList, c ∈ lettersS.cps.toList ∨ c ∈ digitsS.cps.toList
def numS (n : Nat) : Str := (toString (n : Int) : String)
inductive Cl where
  | knew (p : Str) (d : Nat) (v : Option Str)
  | told (t h : Option Str) (f : Nat) (l : Option Nat)
  | began (p : Str) (v : Option Str)
  | held (k : Nat)
  | turned (p : Str) (o n : Option Str)
  deriving DecidableEq
abbrev Row := Bool × Cl
def oS : Option Str → D
  | none => .non
  | some x => .str x
def oN : Option Nat → D
  | none => .non
  | some n => .int n
def wS : Option Str → Str
  | none => "any"
  | some x => x
def wE : Option Nat → Str
  | none => "end"
  | some n => numS n
def Cl.words : Cl → List D
  | .knew p d v => [.str "knew", .str p, .int d, oS v]
  | .told t h f l => [.str "told", oS t, oS h, .int f, oN l]
  | .began p v => [.str "began", .str p, oS v]
  | .held k => [.str "held", .int k]
  | .turned p o n => [.str "turned", .str p, oS o, oS n]
def Cl.strs : Cl → List Str
  | .knew p d v => ["knew", p, numS d, wS v]
  | .told t h f l => ["told", wS t, wS h, numS f, wE l]
  | .began p v => ["began", p, wS v]
  | .held k => ["held", numS k]
  | .turned p o n => ["turned", p, wS o, wS n]
def rowStrs (r : Row) : List Str := (if r.1 then ([] : List Str) else ["not"]) ++ r.2.strs
def rowText (r : Row) : Str := Txt.join " " (rowStrs r)
def rowD (r : Row) : D := .tup [.bl r.1, .tup r.2.words]
def OptOK (q : Str → Prop) : Option Str → Prop
  | none => True
  | some x => q x
def OptN (q : Nat → Prop) : Option Nat → Prop
  | none => True
  | some x => q x
/-- names that are names, numbers up to 30 -/
def Cl.ok : Cl → Prop
  | .knew p d v => NameOK p ∧ d ≤ 30 ∧ OptOK NameOK v
  | .told t h f l => OptOK NameOK t ∧ OptOK NameOK h ∧ f ≤ 30 ∧ OptN (· ≤ 30) l
  | .began p v => NameOK p ∧ OptOK NameOK v
  | .held k => k ≤ 30
  | .turned p o n => NameOK p ∧ OptOK NameOK o ∧ OptOK NameOK n
section
variable (a : Ad)
def clD (C : Addr) (r : Row) : D := .obj C ["words", "positive"] [.tup r.2.words, .bl r.1]
def IsCl (d : D) (r : Row) : Prop := ∃ C, GClaim a C ∧ d = clD C r
def clauseD (xs : List D) : D := .obj (a.g "Clause") ["_claims"] [.lst xs]
abbrev IsCls : List D → List Row → Prop := Paired (IsCl a)
def IsClause (d : D) (rs : List Row) : Prop := ∃ xs, d = clauseD a xs ∧ IsCls a xs rs
end
/-- the text's classes, asked by isinstance -/
structure Ty (K : PySem.W.Frag) (a : Ad) : Prop where
  cl : ∀ C, GClaim a C → InsK K C ∧ PySem.W.kitOne K (.ref C) (.ref (a.g "Claim")) = some true ∧ PySem.W.kitOne K (.ref C) (.ref (a.g "Clause")) = some false
  cs : InsK K (a.g "Clause") ∧ PySem.W.kitOne K (.ref (a.g "Clause")) (.ref (a.g "Clause")) = some true
  bk : InsK K (a.g "Book") ∧ PySem.W.kitOne K (.ref (a.g "Book")) (.ref (a.g "Book")) = some true
  kb : PySem.W.kitOne K (.type "bool") (.type "bool") = some true
  kl : PySem.W.kitOne K (.type "list") (.type "list") = some true
/-! ### books -/
structure Mt where
  day : Nat
  one : Str
  two : Str
  sure : Bool
  deriving DecidableEq
structure Tn where
  who : Str
  old : Str
  new : Str
  deriving DecidableEq
def Mt.d (x : Mt) : D := .tup [.int x.day, .str x.one, .str x.two, .bl x.sure]
def Tn.d (x : Tn) : D := .tup [.str x.who, .str x.old, .str x.new]
structure Bk where
  people : List Str
  versions : List Str
  last : Nat
  meetings : List Mt
  turns : List Tn
  facts : List (List Row)
  limits : List (Option Nat)
  np : Nat
structure BkA where
  p : Addr
  m : Addr
  t : Addr
  f : Addr
  q : Addr
def BkA.all (k : BkA) : List Addr := [k.p, k.m, k.t, k.f, k.q]
def bookFs (k : BkA) (B : Bk) : List (Str × D) := [("last_day", .int B.last), ("_people", .lst (B.people.map .str)), ("_versions", .lst (B.versions.map .str)), ("_meetings", .ref k.m), ("_turns", .ref k.t), ("_facts", .ref k.f), ("_limits", .tup (B.limits.map oN)), ("_past", .ref k.q)]
structure BookAt (a : Ad) (m : Mem) (k : BkA) (B : Bk) : Prop where
  at_ : m k.p = some (.ins (a.g "Book") (bookFs k B))
  mt : m k.m = some (.lst (B.meetings.map Mt.d))
  tn : m k.t = some (.lst (B.turns.map Tn.d))
  fa : ∃ fs, m k.f = some (.lst fs) ∧ Paired (IsClause a) fs B.facts
  pa : ∃ ps : List D, m k.q = some (.lst ps) ∧ ps.length = B.np
  nd : k.all.Nodup
  few : B.meetings.length ≤ 100 ∧ B.turns.length ≤ 100 ∧ B.facts.length ≤ 100 ∧ B.np ≤ 1000 ∧ B.limits.length = 4
def Fr (k : BkA) (m m' : Mem) : Prop := ∀ x, x ∉ k.all → m' x = m x
def New (k : BkA) (m : Mem) : Prop := ∀ x ∈ k.all, m x = none
/-- a claim that suits a book -/
def Known (xs : List Str) : Option Str → Prop
  | none => True
  | some x => x ∈ xs
def Suits (B : Bk) : Cl → Prop
  | .knew p d v => p ∈ B.people ∧ d ≤ B.last ∧ Known B.versions v
  | .told t h f l => Known B.people t ∧ Known B.people h ∧ 1 ≤ f ∧ f ≤ B.last ∧ OptN (fun n => f ≤ n ∧ n ≤ B.last) l
  | .began p v => p ∈ B.people ∧ Known B.versions v
  | .held k => ∃ x, B.meetings[k]? = some x ∧ x.sure = false
  | .turned p o n => p ∈ B.people ∧ Known B.versions o ∧ Known B.versions n
/-! ### the deeds that a text tells -/
inductive Deed where
  | meet (x : Mt)
  | turn (x : Tn)
  | fact (rs : List Row)
  | limit (i : Nat) (c : Option Nat)
def kindsS : List Str := ["begins", "held", "turns", "tellers"]
def kindS (i : Nat) : Str := kindsS.getD i ""
def limS : Option Nat → Str
  | none => "none"
  | some n => numS n
def Deed.strs : Deed → List Str
  | .meet x => [if x.sure then "meet" else "maybe", numS x.day, x.one, x.two]
  | .turn x => ["turn", x.who, x.old, x.new]
  | .fact rs => ["fact", Txt.join " or " (rs.map rowText)]
  | .limit i c => ["limit", kindS i, limS c]
def Deed.line (d : Deed) : Str := Txt.join " " d.strs
def Deed.d (a : Ad) : Deed → D
  | .meet x => .tup [.str "meet", .int x.day, .str x.one, .str x.two, .bl x.sure]
  | .turn x => .tup [.str "turn", .str x.who, .str x.old, .str x.new]
  | .fact rs => .tup [.str "fact", clauseD a (rs.map (clD (a.g "Claim")))]
  | .limit i c => .tup [.str "limit", .str (kindS i), oN c]
/-- the words are well formed -/
def Deed.ok : Deed → Prop
  | .meet x => x.day ≤ 30 ∧ NameOK x.one ∧ NameOK x.two
  | .turn x => NameOK x.who ∧ NameOK x.old ∧ NameOK x.new
  | .fact rs => rs ≠ [] ∧ rs.length ≤ 3 ∧ ∀ r ∈ rs, r.2.ok
  | .limit i c => i < 4 ∧ OptN (· ≤ 24) c
def Mt.same (x y : Mt) : Prop := x.day = y.day ∧ (y.one = x.one ∨ y.one = x.two) ∧ (y.two = x.one ∨ y.two = x.two)
/-- the book takes it -/
def Bk.takes (B : Bk) : Deed → Prop
  | .meet (x : Mt) => x.one ∈ B.people ∧ x.two ∈ B.people ∧ x.one ≠ x.two ∧ 1 ≤ x.day ∧ x.day ≤ B.last ∧ (∀ y ∈ B.meetings, ¬ y.same x) ∧ B.meetings.length < 24 ∧ (x.sure = false → (B.meetings.filter (!·.sure)).length < 6)
  | .turn x => x.who ∈ B.people ∧ x.old ∈ B.versions ∧ x.new ∈ B.versions ∧ x.old ≠ x.new ∧ x ∉ B.turns ∧ B.turns.length < 6
  | .fact rs => rs ≠ [] ∧ rs.length ≤ 3 ∧ (∀ r ∈ rs, Suits B r.2) ∧ B.facts.length < 4
  | .limit i c => i < 4 ∧ OptN (· ≤ 24) c
def Bk.app (B : Bk) : Deed → Bk
  | .meet x => { B with meetings := B.meetings ++ [x], np := B.np + 1 }
  | .turn x => { B with turns := B.turns ++ [x], np := B.np + 1 }
  | .fact rs => { B with facts := B.facts ++ [rs], np := B.np + 1 }
  | .limit i c => { B with limits := B.limits.set i c, np := B.np + 1 }
def Bk.start (people versions : List Str) (last : Nat) : Bk := ⟨people, versions, last, [], [], [], [some 1, none, none, none], 0⟩
def HeadOK (people versions : List Str) (last : Nat) : Prop := (∀ z ∈ people, NameOK z) ∧ people.Nodup ∧ 1 ≤ people.length ∧ people.length ≤ 8 ∧ (∀ z ∈ versions, NameOK z) ∧ versions.Nodup ∧ 1 ≤ versions.length ∧ versions.length ≤ 3 ∧ 1 ≤ last ∧ last ≤ 30
def headLines (people versions : List Str) (last : Nat) : List Str := [Txt.join " " ("people" :: people), Txt.join " " ("versions" :: versions), Txt.join " " ["last", numS last]]
def RunsOK : Bk → List Deed → Prop
  | _, [] => True
  | B, d :: ds => B.takes d ∧ d.ok ∧ RunsOK (B.app d) ds
def Bk.apps (B : Bk) (ds : List Deed) : Bk := ds.foldl Bk.app B
/-- what a book's text tells -/
def Bk.lines (B : Bk) : List Str := headLines B.people B.versions B.last ++ B.meetings.map (fun x => (Deed.meet x).line) ++ B.turns.map (fun x => (Deed.turn x).line) ++ B.facts.map (fun x => (Deed.fact x).line) ++
  (List.range 4).map (fun i => (Deed.limit i (B.limits.getD i none)).line)
/-! ### the law's world -/
structure WOK (W : Bk) : Prop where
  head : HeadOK W.people W.versions W.last
  mt : W.meetings.length ≤ 7
  mto : ∀ (i : Nat) (x : Mt), W.meetings[i]? = some x → x.one ∈ W.people ∧ x.two ∈ W.people ∧ x.one ≠ x.two ∧ 1 ≤ x.day ∧ x.day ≤ W.last ∧ ∀ (j : Nat) (y : Mt), j < i → W.meetings[j]? = some y → ¬ y.same x
  mtu : (W.meetings.filter (!·.sure)).length ≤ 6
  tn : W.turns.length ≤ 6
  tno : ∀ x ∈ W.turns, x.who ∈ W.people ∧ x.old ∈ W.versions ∧ x.new ∈ W.versions ∧ x.old ≠ x.new
  tnd : W.turns.Nodup
  fa : W.facts.length ≤ 4
  fao : ∀ rs ∈ W.facts, rs ≠ [] ∧ rs.length ≤ 3 ∧ ∀ r ∈ rs, Suits W r.2
  li : W.limits.length = 4 ∧ ∀ c ∈ W.limits, OptN (· ≤ 24) c
def factD (rs : List Row) : D := .lst (rs.map rowD)
def worldKv (W : Bk) (dl : D) : List (Str × D) := [("people", .lst (W.people.map .str)), ("versions", .lst (W.versions.map .str)), ("last", .int W.last), ("meetings", .lst (W.meetings.map Mt.d)), ("turns", .lst (W.turns.map Tn.d)), ("facts", .lst (W.facts.map factD)), ("limits", dl)]
/-- the world's dict at w; its limits stand at l, or do not change -/
structure WdAt (m : Mem) (w : Addr) (l : Option Addr) (W : Bk) : Prop where
  at_ : ∃ dl, m w = some (.dic (worldKv W dl)) ∧ match l with
    | none => dl = .lst (W.limits.map oN)
    | some x => dl = .ref x ∧ x ≠ w ∧ m x = some (.lst (W.limits.map oN))
/-! ### the law's box -/
structure Bx where
  v0 : Int
  i : Int
  v2 : Int
  ns : List Int
def Bx.ds (b : Bx) : List D := [.int b.v0, .int b.i, .int b.v2, .lst (b.ns.map .int)]
def BxAt (m : Mem) (b : Addr) : Prop := ∃ x : Bx, m b = some (.lst x.ds) ∧ 0 ≤ x.v0 ∧ 0 ≤ x.i ∧ x.ns.length ≤ 100
/-- drawing changes the box alone -/
def Drawn (b : Addr) (m m' : Mem) : Prop := BxAt m' b ∧ ∀ x, x ≠ b → m' x = m x
end HB
set_option Elab.async false
set_option linter.all false
set_option maxRecDepth 100000
set_option maxHeartbeats 4000000
/-! the facts of the text, from the Bool (printed by genf.py) -/
namespace HB
open PySem L2 PySem.Spec PyProof.Rows
def adK (K : Fr0) : Ad := ⟨He.ga K, mAd K⟩
/-! what they say -/
section
variable {K : Fr0} {h : Heap} {mg : Str → Option Value} {P : Program} {w : World}
theorem bMeth_ok {C m : Str} (c : bMeth C m K = true) : Meth K (He.ga K C) m (mAd K C m) := by
  obtain ⟨c1, c⟩ := He.ba c
  obtain ⟨c2, c3⟩ := He.ba c
  exact ⟨He.eqO_ok c1, c2, c3⟩
theorem bOwn_ok {C m D : Str} (c : bOwn C m K D = true) : OwnM K (He.ga K D) m (mAd K C m) := by
  obtain ⟨c1, c2⟩ := He.ba c
  exact ⟨He.eqO_ok c1, c2⟩
theorem bMk_ok {C : Str} (c : bMk C K = true) : Mk K (He.ga K C) (mAd K C "__init__") := by
  obtain ⟨c1, c⟩ := He.ba c
  obtain ⟨c2, c⟩ := He.ba c
  obtain ⟨c3, c4⟩ := He.ba c
  exact ⟨c1, He.eqO_ok c2, c3, c4⟩
theorem bRead_ok (c : bRead K = true) : ClX.CRead K (He.ga K "Book") (.type "type") := by
  obtain ⟨c1, c2⟩ := He.ba c
  exact ⟨c1, He.eqO_ok c2⟩
theorem bCV_ok {n : Str} {i : Int} (r : bRead K = true) (c : bCV n i K = true) : ∃ mc u, ClX.CRead K (He.ga K "Book") mc ∧ ClX.CVal K (He.ga K "Book") mc n (.int i) u := by
  refine ⟨.type "type", ?_⟩
  unfold bCV at c
  split at c
  · rename_i j t e
    have ej : j = i := of_decide_eq_true c
    exact ⟨_, bRead_ok r, e, ⟨t, by rw [ej]⟩⟩
  · cases c
theorem bRec_ok {p g : Addr} {T : String} (c : bRec K p g T = true) : ∃ rest, PySem.W.recIn K p T = some (.ref g :: rest) := by
  unfold bRec at c
  split at c
  · rename_i h r e
    exact ⟨r, by rw [e, of_decide_eq_true c]⟩
  · cases c
theorem bProp_ok (c : bProp K = true) : ∃ q, PropOf K (He.ga K "Book") "begin_limit" q (mAd K "Book" "begin_limit") := by
  obtain ⟨c1, c⟩ := He.ba c
  obtain ⟨c2, c⟩ := He.ba c
  obtain ⟨c3, c4⟩ := He.ba c
  exact ⟨_, He.eqO_ok c1, He.eqO_ok c2, of_decide_eq_true c3, bRec_ok c4⟩
theorem bCm_ok (r : bRead K = true) (c : bCm K = true) : ∃ mc q, ClX.CRead K (He.ga K "Book") mc ∧ ClX.CMet K (He.ga K "Book") mc "read" q (mAd K "Book" "read") := by
  obtain ⟨c1, c⟩ := He.ba c
  obtain ⟨c2, c3⟩ := He.ba c
  split at c1
  · rename_i s p B e
    obtain ⟨e1, e2⟩ := He.ba c1
    obtain ⟨e2, e3⟩ := He.ba e2
    refine ⟨_, oAd K "Book" "read", bRead_ok r, ?_, bRec_ok c2, c3⟩
    rw [e, of_decide_eq_true e1, of_decide_eq_true e2, of_decide_eq_true e3]
  · cases c1
theorem bTup_ok {a : Addr} {xs : List Str} (c : bTup K a xs = true) : KTup K a (xs.map V.str) := by
  unfold bTup at c
  split at c
  · rename_i c' d its n sl e
    obtain ⟨c1, c⟩ := He.ba c
    obtain ⟨c2, c3⟩ := He.ba c
    exact ⟨_, its, n, e, by rw [of_decide_eq_true c1], rfl, of_decide_eq_true c2, He.relAll_ok c3⟩
  · cases c
theorem ktup_is {a : Addr} {xs : List Str} (c : KTup K a (xs.map V.str)) (H : Hp) (m : Mem) : Is K H m (.tup (xs.map D.str)) (.ref a) := is_tup.mpr ⟨a, xs.map V.str, rfl, .inr c, iss_strs xs⟩
theorem bKi_ok (c : bKi K = true) : ∃ ob, K.lookup (He.ga K "KINDS") = some ob ∧ ob.cls = .type "tuple" ∧ ob.dict = none := by
  unfold bKi at c
  split at c
  · rename_i c' d sl e
    exact ⟨_, e, by rw [of_decide_eq_true c], rfl⟩
  · cases c
theorem bEnt_ok {x : Str} {xs : List Str} {es : Array DictEntry} {n : Nat} (D0 : KDict K w (He.ga K "FORMS") es n) (c : bEnt x xs K = true) : ∃ v, KDct K w (He.ga K "FORMS") x v ∧ ∀ H m, Is K H m (.tup (xs.map D.str)) v := by
  unfold bEnt at c
  split at c
  · rename_i t e
    exact ⟨.ref t, ⟨es, n, .ref t, D0.at_, D0.lit, e, rfl⟩, ktup_is (bTup_ok c)⟩
  · cases c
theorem bOrC_ok {C D : Str} (c : bOrC C K D = true) : OrC K (He.ga K D) (mAd K C "__or__") := by
  obtain ⟨c1, c⟩ := He.ba c
  obtain ⟨c2, c⟩ := He.ba c
  obtain ⟨c3, c⟩ := He.ba c
  obtain ⟨c4, c5⟩ := He.ba c
  exact ⟨c1, bOwn_ok c2, He.eqO_ok c3, c4, of_decide_eq_true c5⟩
theorem bOrP_ok {C D : Str} (c : bOrP K C D = true) : OrP K (He.ga K C) (He.ga K D) := by
  by_cases e : He.ga K C = He.ga K D
  · exact .inl e
  · unfold bOrP at c
    rw [decide_eq_false e, Bool.false_or] at c
    exact .inr ⟨e, Option.isSome_iff_exists.mp c⟩
theorem bIns_ok {C : Str} (c : bIns K C = true) : InsK K (He.ga K C) := by
  obtain ⟨c1, c⟩ := He.ba c
  obtain ⟨c2, c⟩ := He.ba c
  obtain ⟨c3, c⟩ := He.ba c
  obtain ⟨c4, c5⟩ := He.ba c
  exact ⟨He.cls_ok c1, He.eqO_ok c2, He.eqO_ok c3, of_decide_eq_true c4, of_decide_eq_true c5⟩
theorem bKit_ok {t c : Value} {b : Bool} (h : bKit K t c b = true) : PySem.W.kitOne K t c = some b := of_decide_eq_true h
theorem gcl {C : Addr} (h : GClaim (adK K) C) : ∃ x ∈ cl6, C = He.ga K x := by
  rcases h with e | e | e | e | e | e
  · exact ⟨"Claim", List.mem_of_getElem? (i := 0) rfl, e⟩
  · exact ⟨"Knew", List.mem_of_getElem? (i := 1) rfl, e⟩
  · exact ⟨"Told", List.mem_of_getElem? (i := 2) rfl, e⟩
  · exact ⟨"Began", List.mem_of_getElem? (i := 3) rfl, e⟩
  · exact ⟨"Held", List.mem_of_getElem? (i := 4) rfl, e⟩
  · exact ⟨"Turned", List.mem_of_getElem? (i := 5) rfl, e⟩
theorem bEq_ok (o : cl6.all (bOwn "Claim" "__eq__" K) = true) (c : cl6.all (fun x => cl6.all (bEq K x)) = true) : ∀ C D b, GEq (adK K) C D b → OwnM K C "__eq__" (mAd K "Claim" "__eq__") ∧ OwnM K D "__eq__" (mAd K "Claim" "__eq__") ∧ (b = true → (Value.ref C != Value.ref D) = true ∧ PySem.W.subIn K (.ref D) (.ref C) = some true) ∧ (b = false → PySem.W.notFirst K C (.ref D) = true) := by
  rintro C D b ⟨hC, hD, hb⟩
  obtain ⟨x, hx, rfl⟩ := gcl hC
  obtain ⟨y, hy, rfl⟩ := gcl hD
  have c1 : bEq K x y = true := List.all_eq_true.mp (List.all_eq_true.mp c x hx) y hy
  refine ⟨bOwn_ok (List.all_eq_true.mp o x hx), bOwn_ok (List.all_eq_true.mp o y hy), ?_⟩
  unfold bEq at c1
  rcases hb with ⟨rfl, e1, e2⟩ | ⟨rfl, e⟩
  · have e1' : He.ga K x = He.ga K "Claim" := e1
    rw [decide_eq_true e1', decide_eq_false e2] at c1
    have e3 : (Value.ref (He.ga K x) != Value.ref (He.ga K y)) = true := by
      simp only [bne_iff_ne, ne_eq, Value.ref.injEq]
      exact fun z => e2 z.symm
    exact ⟨fun _ => ⟨e3, of_decide_eq_true c1⟩, fun z => absurd z (by decide)⟩
  · have ef : (decide (He.ga K x = He.ga K "Claim") && !decide (He.ga K y = He.ga K x)) = false := by
      rcases e with e | e
      · rw [decide_eq_true e]; simp
      · have e' : ¬ He.ga K x = He.ga K "Claim" := e
        rw [decide_eq_false e']; rfl
    rw [ef] at c1
    exact ⟨fun z => absurd z (by decide), fun _ => c1⟩
end
section
variable {K : Fr0} {h : Heap} {mg : Str → Option Value} {P : Program} {w : World}
theorem forms_ok (c : chk K = true) (d : ∃ es n, KDict K w (He.ga K "FORMS") es n) : KForms K w (He.ga K "FORMS") formsD := by
  obtain ⟨es, n, D0⟩ := d
  refine ⟨D0.low, fun z d e => ?_⟩
  unfold formsD at e
  rw [List.lookup_cons] at e
  cases q : (z == "knew") with
  | true =>
    rw [q] at e; cases e; rw [beq_iff_eq.mp q]
    exact bEnt_ok D0 (ck c 177 rfl)
  | false =>
  rw [q] at e
  rw [List.lookup_cons] at e
  cases q : (z == "told") with
  | true =>
    rw [q] at e; cases e; rw [beq_iff_eq.mp q]
    exact bEnt_ok D0 (ck c 178 rfl)
  | false =>
  rw [q] at e
  rw [List.lookup_cons] at e
  cases q : (z == "began") with
  | true =>
    rw [q] at e; cases e; rw [beq_iff_eq.mp q]
    exact bEnt_ok D0 (ck c 179 rfl)
  | false =>
  rw [q] at e
  rw [List.lookup_cons] at e
  cases q : (z == "held") with
  | true =>
    rw [q] at e; cases e; rw [beq_iff_eq.mp q]
    exact bEnt_ok D0 (ck c 180 rfl)
  | false =>
  rw [q] at e
  rw [List.lookup_cons] at e
  cases q : (z == "turned") with
  | true =>
    rw [q] at e; cases e; rw [beq_iff_eq.mp q]
    exact bEnt_ok D0 (ck c 181 rfl)
  | false =>
  rw [q] at e
  cases e
theorem tx_of (X : K.In h) (G : h.Ns mainGlobals mg) (c : chk K = true) (d : ∃ es n, KDict K w (He.ga K "FORMS") es n) : Tx P w K mg (adK K) where
  f_len := He.free_ok X G (x := "len") (ck c 0 rfl)
  gi_MOST_SIGNS := He.int_ok X G (x := "MOST_SIGNS") (i := 8) (ck c 1 rfl)
  g_RESERVED := He.glo_ok X G (x := "RESERVED") (ck c 2 rfl)
  i_RESERVED := ktup_is (xs := ["any", "end", "none", "not", "or"]) (bTup_ok (ck c 3 rfl))
  gs_LETTERS := He.str_ok X G (x := "LETTERS") (z := "abcdefghijklmnopqrstuvwxyz") (ck c 4 rfl)
  gs_DIGITS := He.str_ok X G (x := "DIGITS") (z := "0123456789") (ck c 5 rfl)
  g_is_name := He.glo_ok X G (x := "is_name") (ck c 6 rfl)
  k_is_name := He.keep_ok (x := "is_name") (ck c 7 rfl)
  gi_MOST_DIGITS := He.int_ok X G (x := "MOST_DIGITS") (i := 4) (ck c 8 rfl)
  f_int := He.free_ok X G (x := "int") (ck c 9 rfl)
  f_enumerate := He.free_ok X G (x := "enumerate") (ck c 10 rfl)
  f_str := He.free_ok X G (x := "str") (ck c 11 rfl)
  a_words := fun C h => by obtain ⟨x, hx, rfl⟩ := gcl h; exact ⟨He.cls_ok (List.all_eq_true.mp (ck c 12 rfl) x hx), He.noat_ok (List.all_eq_true.mp (ck c 13 rfl) x hx)⟩
  a_positive := fun C h => by obtain ⟨x, hx, rfl⟩ := gcl h; exact ⟨He.cls_ok (List.all_eq_true.mp (ck c 12 rfl) x hx), He.noat_ok (List.all_eq_true.mp (ck c 14 rfl) x hx)⟩
  mk_Claim := bMk_ok (ck c 15 rfl)
  g_Claim := He.glo_ok X G (x := "Claim") (ck c 16 rfl)
  f_isinstance := He.free_ok X G (x := "isinstance") (ck c 17 rfl)
  mk_Clause := bMk_ok (ck c 18 rfl)
  g_Clause := He.glo_ok X G (x := "Clause") (ck c 19 rfl)
  g_claim_text := He.glo_ok X G (x := "claim_text") (ck c 20 rfl)
  k_claim_text := He.keep_ok (x := "claim_text") (ck c 21 rfl)
  f_list := He.free_ok X G (x := "list") (ck c 22 rfl)
  a__claims := fun C h => by obtain rfl := h; exact ⟨He.cls_ok (x := "Clause") (ck c 23 rfl), He.noat_ok (x := "Clause") (f := "_claims") (ck c 24 rfl)⟩
  own_str_Claim := fun C h => by obtain ⟨x, hx, rfl⟩ := gcl h; exact bOwn_ok (List.all_eq_true.mp (ck c 25 rfl) x hx)
  c_Clause := He.cls_ok (x := "Clause") (ck c 23 rfl)
  m_Clause_claims := bMeth_ok (ck c 26 rfl)
  g_number_of := He.glo_ok X G (x := "number_of") (ck c 27 rfl)
  k_number_of := He.keep_ok (x := "number_of") (ck c 28 rfl)
  forms := forms_ok c d
  g_FORMS := He.glo_ok X G (x := "FORMS") (ck c 29 rfl)
  f_zip := He.free_ok X G (x := "zip") (ck c 30 rfl)
  g_read_word := He.glo_ok X G (x := "read_word") (ck c 31 rfl)
  k_read_word := He.keep_ok (x := "read_word") (ck c 32 rfl)
  f_tuple := He.free_ok X G (x := "tuple") (ck c 33 rfl)
  g_parse_claim := He.glo_ok X G (x := "parse_claim") (ck c 34 rfl)
  k_parse_claim := He.keep_ok (x := "parse_claim") (ck c 35 rfl)
  g_KINDS := He.glo_ok X G (x := "KINDS") (ck c 36 rfl)
  i_KINDS := ktup_is (xs := ["begins", "held", "turns", "tellers"]) (bTup_ok (ck c 37 rfl))
  g_parse_clause := He.glo_ok X G (x := "parse_clause") (ck c 38 rfl)
  k_parse_clause := He.keep_ok (x := "parse_clause") (ck c 39 rfl)
  g_read_limit := He.glo_ok X G (x := "read_limit") (ck c 40 rfl)
  k_read_limit := He.keep_ok (x := "read_limit") (ck c 41 rfl)
  c_Book := He.cls_ok (x := "Book") (ck c 42 rfl)
  m_Book_people := bMeth_ok (ck c 43 rfl)
  g_check_known := He.glo_ok X G (x := "check_known") (ck c 44 rfl)
  k_check_known := He.keep_ok (x := "check_known") (ck c 45 rfl)
  a_last_day := fun C h => by obtain rfl := h; exact ⟨He.cls_ok (x := "Book") (ck c 42 rfl), He.noat_ok (x := "Book") (f := "last_day") (ck c 46 rfl)⟩
  g_check_told := He.glo_ok X G (x := "check_told") (ck c 47 rfl)
  k_check_told := He.keep_ok (x := "check_told") (ck c 48 rfl)
  m_Book_meetings := bMeth_ok (ck c 49 rfl)
  m_Book_versions := bMeth_ok (ck c 50 rfl)
  g_check_claim := He.glo_ok X G (x := "check_claim") (ck c 51 rfl)
  k_check_claim := He.keep_ok (x := "check_claim") (ck c 52 rfl)
  g_check_names := He.glo_ok X G (x := "check_names") (ck c 53 rfl)
  k_check_names := He.keep_ok (x := "check_names") (ck c 54 rfl)
  g_Book := He.glo_ok X G (x := "Book") (ck c 55 rfl)
  cv_MOST_PEOPLE := bCV_ok (ck c 56 rfl) (ck c 57 rfl)
  cv_MOST_VERSIONS := bCV_ok (ck c 56 rfl) (ck c 58 rfl)
  cv_LAST_DAY := bCV_ok (ck c 56 rfl) (ck c 59 rfl)
  a__people := fun C h => by obtain rfl := h; exact ⟨He.cls_ok (x := "Book") (ck c 42 rfl), He.noat_ok (x := "Book") (f := "_people") (ck c 60 rfl)⟩
  a__versions := fun C h => by obtain rfl := h; exact ⟨He.cls_ok (x := "Book") (ck c 42 rfl), He.noat_ok (x := "Book") (f := "_versions") (ck c 61 rfl)⟩
  a__meetings := fun C h => by obtain rfl := h; exact ⟨He.cls_ok (x := "Book") (ck c 42 rfl), He.noat_ok (x := "Book") (f := "_meetings") (ck c 62 rfl)⟩
  a__turns := fun C h => by obtain rfl := h; exact ⟨He.cls_ok (x := "Book") (ck c 42 rfl), He.noat_ok (x := "Book") (f := "_turns") (ck c 63 rfl)⟩
  a__facts := fun C h => by obtain rfl := h; exact ⟨He.cls_ok (x := "Book") (ck c 42 rfl), He.noat_ok (x := "Book") (f := "_facts") (ck c 64 rfl)⟩
  a__limits := fun C h => by obtain rfl := h; exact ⟨He.cls_ok (x := "Book") (ck c 42 rfl), He.noat_ok (x := "Book") (f := "_limits") (ck c 65 rfl)⟩
  a__past := fun C h => by obtain rfl := h; exact ⟨He.cls_ok (x := "Book") (ck c 42 rfl), He.noat_ok (x := "Book") (f := "_past") (ck c 66 rfl)⟩
  g_read_names := He.glo_ok X G (x := "read_names") (ck c 67 rfl)
  k_read_names := He.keep_ok (x := "read_names") (ck c 68 rfl)
  g_read_last := He.glo_ok X G (x := "read_last") (ck c 69 rfl)
  k_read_last := He.keep_ok (x := "read_last") (ck c 70 rfl)
  g_names_refused := He.glo_ok X G (x := "names_refused") (ck c 71 rfl)
  k_names_refused := He.keep_ok (x := "names_refused") (ck c 72 rfl)
  mk_Book := bMk_ok (ck c 73 rfl)
  m_Book__do := bMeth_ok (ck c 74 rfl)
  g_read_line := He.glo_ok X G (x := "read_line") (ck c 75 rfl)
  k_read_line := He.keep_ok (x := "read_line") (ck c 76 rfl)
  eqo := bEq_ok (ck c 77 rfl) (ck c 78 rfl)
  cv_MOST_MEETINGS := bCV_ok (ck c 56 rfl) (ck c 79 rfl)
  cv_MOST_UNSURE := bCV_ok (ck c 56 rfl) (ck c 80 rfl)
  m_Book__keep := bMeth_ok (ck c 81 rfl)
  cv_MOST_TURNS := bCV_ok (ck c 56 rfl) (ck c 82 rfl)
  g_joined := He.glo_ok X G (x := "joined") (ck c 83 rfl)
  k_joined := He.keep_ok (x := "joined") (ck c 84 rfl)
  cv_MOST_CLAIMS := bCV_ok (ck c 56 rfl) (ck c 85 rfl)
  g_check_claims := He.glo_ok X G (x := "check_claims") (ck c 86 rfl)
  k_check_claims := He.keep_ok (x := "check_claims") (ck c 87 rfl)
  cv_MOST_FACTS := bCV_ok (ck c 56 rfl) (ck c 88 rfl)
  own_len_Clause := fun C h => by obtain rfl := h; exact bOwn_ok (ck c 89 rfl)
  cv_MOST_WIDE := bCV_ok (ck c 56 rfl) (ck c 90 rfl)
  gi_MOST_LIMIT := He.int_ok X G (x := "MOST_LIMIT") (i := 24) (ck c 91 rfl)
  ki_obj := bKi_ok (ck c 92 rfl)
  ki_tup := bTup_ok (ck c 37 rfl)
  own_str_Clause := fun C h => by obtain rfl := h; exact bOwn_ok (ck c 93 rfl)
  g_limit_line := He.glo_ok X G (x := "limit_line") (ck c 94 rfl)
  k_limit_line := He.keep_ok (x := "limit_line") (ck c 95 rfl)
  m_Book_meet := bMeth_ok (ck c 96 rfl)
  m_Book_may_turn := bMeth_ok (ck c 97 rfl)
  m_Book_change := bMeth_ok (ck c 98 rfl)
  m_Book_fact := bMeth_ok (ck c 99 rfl)
  f_bool := He.free_ok X G (x := "bool") (ck c 100 rfl)
  f_abs := He.free_ok X G (x := "abs") (ck c 101 rfl)
  g__law_take := He.glo_ok X G (x := "_law_take") (ck c 102 rfl)
  k__law_take := He.keep_ok (x := "_law_take") (ck c 103 rfl)
  f_range := He.free_ok X G (x := "range") (ck c 104 rfl)
  g__law_pair_met := He.glo_ok X G (x := "_law_pair_met") (ck c 105 rfl)
  k__law_pair_met := He.keep_ok (x := "_law_pair_met") (ck c 106 rfl)
  g__law_unsure := He.glo_ok X G (x := "_law_unsure") (ck c 107 rfl)
  k__law_unsure := He.keep_ok (x := "_law_unsure") (ck c 108 rfl)
  g__law_claim_row := He.glo_ok X G (x := "_law_claim_row") (ck c 109 rfl)
  k__law_claim_row := He.keep_ok (x := "_law_claim_row") (ck c 110 rfl)
  g__law_names := He.glo_ok X G (x := "_law_names") (ck c 111 rfl)
  k__law_names := He.keep_ok (x := "_law_names") (ck c 112 rfl)
  g__law_meetings := He.glo_ok X G (x := "_law_meetings") (ck c 113 rfl)
  k__law_meetings := He.keep_ok (x := "_law_meetings") (ck c 114 rfl)
  g__law_changes := He.glo_ok X G (x := "_law_changes") (ck c 115 rfl)
  k__law_changes := He.keep_ok (x := "_law_changes") (ck c 116 rfl)
  g__law_facts := He.glo_ok X G (x := "_law_facts") (ck c 117 rfl)
  k__law_facts := He.keep_ok (x := "_law_facts") (ck c 118 rfl)
  g__law_made := He.glo_ok X G (x := "_law_made") (ck c 119 rfl)
  k__law_made := He.keep_ok (x := "_law_made") (ck c 120 rfl)
  g__law_bool := He.glo_ok X G (x := "_law_bool") (ck c 121 rfl)
  k__law_bool := He.keep_ok (x := "_law_bool") (ck c 122 rfl)
  f_repr := He.free_ok X G (x := "repr") (ck c 123 rfl)
  mk_Knew := bMk_ok (ck c 124 rfl)
  g_Knew := He.glo_ok X G (x := "Knew") (ck c 125 rfl)
  mk_Told := bMk_ok (ck c 126 rfl)
  g_Told := He.glo_ok X G (x := "Told") (ck c 127 rfl)
  mk_Began := bMk_ok (ck c 128 rfl)
  g_Began := He.glo_ok X G (x := "Began") (ck c 129 rfl)
  mk_Held := bMk_ok (ck c 130 rfl)
  g_Held := He.glo_ok X G (x := "Held") (ck c 131 rfl)
  mk_Turned := bMk_ok (ck c 132 rfl)
  g_Turned := He.glo_ok X G (x := "Turned") (ck c 133 rfl)
  own_invert := fun C h => by obtain ⟨x, hx, rfl⟩ := gcl h; exact bOwn_ok (List.all_eq_true.mp (ck c 134 rfl) x hx)
  g__law_claim := He.glo_ok X G (x := "_law_claim") (ck c 135 rfl)
  k__law_claim := He.keep_ok (x := "_law_claim") (ck c 136 rfl)
  or1 := fun C D h => by obtain ⟨x, hx, rfl⟩ := gcl h.1; obtain ⟨y, hy, rfl⟩ := gcl h.2; exact ⟨_, bOrC_ok (List.all_eq_true.mp (ck c 137 rfl) x hx), bOrC_ok (List.all_eq_true.mp (ck c 137 rfl) y hy), bOrP_ok (List.all_eq_true.mp (List.all_eq_true.mp (ck c 138 rfl) x hx) y hy)⟩
  or2 := fun C D h => by obtain rfl := h.1; obtain ⟨y, hy, rfl⟩ := gcl h.2; exact ⟨_, bOrC_ok (ck c 140 rfl), bOrC_ok (List.all_eq_true.mp (ck c 137 rfl) y hy), bOrP_ok (List.all_eq_true.mp (ck c 139 rfl) y hy)⟩
  g__law_clause := He.glo_ok X G (x := "_law_clause") (ck c 141 rfl)
  k__law_clause := He.keep_ok (x := "_law_clause") (ck c 142 rfl)
  g__law_text := He.glo_ok X G (x := "_law_text") (ck c 143 rfl)
  k__law_text := He.keep_ok (x := "_law_text") (ck c 144 rfl)
  g__law_same := He.glo_ok X G (x := "_law_same") (ck c 145 rfl)
  k__law_same := He.keep_ok (x := "_law_same") (ck c 146 rfl)
  own_contains := fun C h => by obtain rfl := h; exact bOwn_ok (ck c 147 rfl)
  m_Book_turns := bMeth_ok (ck c 148 rfl)
  m_Book_limits := bMeth_ok (ck c 149 rfl)
  prop_begin := bProp_ok (ck c 150 rfl)
  own_len_Book := fun C h => by obtain rfl := h; exact bOwn_ok (ck c 151 rfl)
  m_Book_facts := bMeth_ok (ck c 152 rfl)
  m_Book_text := bMeth_ok (ck c 153 rfl)
  g__law_lines := He.glo_ok X G (x := "_law_lines") (ck c 154 rfl)
  k__law_lines := He.keep_ok (x := "_law_lines") (ck c 155 rfl)
  g__law_within := He.glo_ok X G (x := "_law_within") (ck c 156 rfl)
  k__law_within := He.keep_ok (x := "_law_within") (ck c 157 rfl)
  g__law_fact_shows := He.glo_ok X G (x := "_law_fact_shows") (ck c 158 rfl)
  k__law_fact_shows := He.keep_ok (x := "_law_fact_shows") (ck c 159 rfl)
  m_Book_undo := bMeth_ok (ck c 160 rfl)
  g_NothingToUndo := He.glo_ok X G (x := "NothingToUndo") (ck c 161 rfl)
  exm_nothing := He.exm_ok (x := "NothingToUndo") (y := "NothingToUndo") (ck c 162 rfl)
  g__law_box := He.glo_ok X G (x := "_law_box") (ck c 163 rfl)
  k__law_box := He.keep_ok (x := "_law_box") (ck c 164 rfl)
  g__law_world := He.glo_ok X G (x := "_law_world") (ck c 165 rfl)
  k__law_world := He.keep_ok (x := "_law_world") (ck c 166 rfl)
  g__law_limits := He.glo_ok X G (x := "_law_limits") (ck c 167 rfl)
  k__law_limits := He.keep_ok (x := "_law_limits") (ck c 168 rfl)
  cm_read := bCm_ok (ck c 56 rfl) (ck c 169 rfl)
  g__law_shows := He.glo_ok X G (x := "_law_shows") (ck c 170 rfl)
  k__law_shows := He.keep_ok (x := "_law_shows") (ck c 171 rfl)
  g__law_nothing := He.glo_ok X G (x := "_law_nothing") (ck c 172 rfl)
  k__law_nothing := He.keep_ok (x := "_law_nothing") (ck c 173 rfl)
  g__law_build := He.glo_ok X G (x := "_law_build") (ck c 174 rfl)
  k__law_build := He.keep_ok (x := "_law_build") (ck c 175 rfl)
  f_super := He.free_ok X G (x := "super") (ck c 176 rfl)
theorem ty_of (c : chk K = true) : Ty K (adK K) where
  cl := fun C h => by obtain ⟨x, hx, rfl⟩ := gcl h; exact ⟨bIns_ok (List.all_eq_true.mp (ck c 182 rfl) x hx), bKit_ok (List.all_eq_true.mp (ck c 183 rfl) x hx), bKit_ok (List.all_eq_true.mp (ck c 184 rfl) x hx)⟩
  cs := ⟨bIns_ok (ck c 185 rfl), bKit_ok (ck c 186 rfl)⟩
  bk := ⟨bIns_ok (ck c 187 rfl), bKit_ok (ck c 188 rfl)⟩
  kb := bKit_ok (ck c 189 rfl)
  kl := bKit_ok (ck c 190 rfl)
theorem exc_of (c : chk K = true) : PySem.W.excIn K (He.ga K "NothingToUndo") He.veBase "ValueError.__new__" = true ∧ PySem.W.keepIn K (.ref (He.ga K "NothingToUndo")) = true ∧ PySem.W.subIn K (.ref (He.ga K "NothingToUndo")) (.type "BaseException") = some true ∧ PySem.W.typeIn K (.ref (He.ga K "NothingToUndo")) = some (.type "type") := He.exc_ok (ck c 191 rfl)
theorem law_of (X : K.In h) (G : h.Ns mainGlobals mg) (c : chk K = true) : mg "law" = some (.ref (He.ga K "law")) := He.glo_ok X G (x := "law") (ck c 197 rfl)
theorem sup_Knew (c : chk K = true) : bSup "Knew" "Knew.__init__" K = true := (ck c 192 rfl)
theorem sup_Told (c : chk K = true) : bSup "Told" "Told.__init__" K = true := (ck c 193 rfl)
theorem sup_Began (c : chk K = true) : bSup "Began" "Began.__init__" K = true := (ck c 194 rfl)
theorem sup_Held (c : chk K = true) : bSup "Held" "Held.__init__" K = true := (ck c 195 rfl)
theorem sup_Turned (c : chk K = true) : bSup "Turned" "Turned.__init__" K = true := (ck c 196 rfl)
end
end HB
namespace HB
open PySem L2
local macro_rules | `(tactic| walk_at "hbs") => `(tactic| simp only [sSeq, sNext, sIf, sRet, sRetN, sDrop, sSet, sTest, sBin, sVar, sC, sNot, sAnd, sOr, sNotV, sAndV, sOrV, sIfE, sCall, aNil, aCons, aStar, sTup, sLst, sLstM, sBlt, sBM, sChain, sAugI, startG, gN, gTuple, gsCons, gsNil, List.map_cons, List.map_nil, List.length_cons, List.length_nil, List.replicate, List.cons_append, List.nil_append, List.getElem?_cons_zero, List.getElem?_cons_succ, List.set_cons_zero, List.set_cons_succ, Nat.sub_self, Nat.reduceSub, Nat.reduceAdd, rhoIsN, isNon, Bool.xor_false, Bool.false_xor, Bool.true_xor, Bool.not_true, Bool.not_false, decide_true, decide_false, ends1, oS, oN, sNever, rhoLen, rhoIn, rhoEq, rhoB, rhoI, rhoI0, rhoAdd, rhoMul, rhoApp, isLstM, rhoStr, rhoInt, rhoIx, rhoJoin, rhoSplit, isStrD, rhoTuple, rhoList, rhoListM, asL, asQ, asT])
set_option Elab.async false
set_option linter.all false
set_option maxRecDepth 100000
set_option maxHeartbeats 4000000
section
open PySem L2 TL
/-! texts cut where they were joined -/
theorem num_free {n s : Nat} (h : s < 48 ∨ 57 < s) : s ∉ tl (numS n) := by
  unfold numS
  rw [tl_num]
  exact numL_free h
theorem name_free {z : Str} (h : NameOK z) {s : Nat} (h1 : s ∉ lettersS.cps.toList) (h2 : s ∉ digitsS.cps.toList) : s ∉ tl z := fun q => by
  rcases h.all s q with e | e
  · exact h1 e
  · exact h2 e
/-- no " or " begins within joined words -/
theorem no_or : ∀ (ws : List (List Nat)) (q : List Nat), (∀ w ∈ ws, (32 : Nat) ∉ w ∧ w ≠ [111, 114]) → (q = [] ∨ ∃ r, q = 32 :: r) → ∀ i, i < (joinL [32] ws).length → pre [32, 111, 114, 32] ((joinL [32] ws ++ q).drop i) = false
  | [], _, _, _, i, hi => by simp [joinL] at hi
  | [w], q, hw, _, i, hi => free_of (S := [111, 114, 32]) (q := q) (hw w (by simp)).1 i hi
  | w :: v :: r, q, hw, hq, i, hi => by
    have e : joinL [32] (w :: v :: r) = w ++ (32 :: joinL [32] (v :: r)) := rfl
    rw [e] at hi ⊢
    rw [List.append_assoc]
    by_cases h1 : i < w.length
    · exact free_of (S := [111, 114, 32]) (hw w (by simp)).1 i h1
    · by_cases h2 : i = w.length
      · subst h2
        rw [List.drop_left]
        have e2 : ∃ y, joinL [32] (v :: r) ++ q = v ++ y ∧ (y = [] ∨ ∃ z, y = 32 :: z) := by
          cases r with
          | nil => exact ⟨q, rfl, hq⟩
          | cons u r => exact ⟨_, by show (v ++ (32 :: joinL [32] (u :: r))) ++ q = _; rw [List.append_assoc]; rfl, .inr ⟨_, rfl⟩⟩
        obtain ⟨y, e2, hy⟩ := e2
        have hv := hw v (by simp)
        rw [List.cons_append, e2]
        unfold pre
        match v, hv with
        | [], _ =>
          rcases hy with rfl | ⟨z, rfl⟩
          · rfl
          · simp
        | [c], hv =>
          rcases hy with rfl | ⟨z, rfl⟩
          · simp
          · simp
        | [c, d], hv =>
          by_cases e1 : c = 111
          · by_cases e3 : d = 114
            · exact absurd (by rw [e1, e3]) hv.2
            · simp [e3]
          · simp [e1]
        | c :: d :: e :: w', hv =>
          have : e ≠ 32 := fun z => hv.1 (by rw [z]; simp)
          simp [this]
      · have ih := no_or (v :: r) q (fun x hx => hw x (List.mem_cons_of_mem _ hx)) hq (i - w.length - 1) (by
          rw [List.length_append, List.length_cons] at hi; omega)
        have e3 : (w ++ (32 :: joinL [32] (v :: r) ++ q)).drop i = (joinL [32] (v :: r) ++ q).drop (i - w.length - 1) := by
          have : i = w.length + (i - w.length - 1 + 1) := by omega
          rw [this, ← List.drop_drop, List.drop_left]
          simp
        rw [e3]; exact ih
theorem spl_or : ∀ (rs : List (List (List Nat))), rs ≠ [] → (∀ ws ∈ rs, ∀ w ∈ ws, (32 : Nat) ∉ w ∧ w ≠ [111, 114]) → spl [32, 111, 114, 32] 0 [] (joinL [32, 111, 114, 32] (rs.map (joinL [32]))) = rs.map (joinL [32])
  | [], h, _ => absurd rfl h
  | [ws], _, hp => by
    show spl _ 0 [] (joinL [32] ws) = [joinL [32] ws]
    rw [spl_last fun i hi => by
      have := no_or ws [] (hp ws (by simp)) (.inl rfl) i hi
      rw [List.append_nil] at this; exact this]
    rfl
  | ws :: us :: r, _, hp => by
    show spl _ 0 [] (joinL [32] ws ++ ([32, 111, 114, 32] ++ joinL [32, 111, 114, 32] ((us :: r).map (joinL [32])))) = _
    rw [spl_part (by simp) fun i hi => no_or ws _ (hp ws (by simp)) (.inr ⟨_, rfl⟩) i hi, spl_or (us :: r) (by simp) fun x hx => hp x (List.mem_cons_of_mem _ hx)]
    rfl
theorem tl_joinW (ws : List Str) : tl (Txt.join " " ws) = joinL [32] (ws.map tl) := by
  rw [join_eq, tl_join]; rfl
/-- rows joined by " or ", cut again -/
theorem split_or {rs : List (List Str)} (h : rs ≠ []) (hp : ∀ ws ∈ rs, ∀ w ∈ ws, (32 : Nat) ∉ tl w ∧ tl w ≠ [111, 114]) : Txt.split (Txt.join " or " (rs.map (Txt.join " "))) " or " = rs.map (Txt.join " ") := by
  refine map_tl_inj ?_
  rw [split_spl _ _ (by decide) (kind_ok (by decide +kernel)), join_eq, tl_join]
  have e : tl (" or " : Str) = [32, 111, 114, 32] := by decide +kernel
  rw [e]
  have e2 : (rs.map (Txt.join " ")).map tl = (rs.map (List.map tl)).map (joinL [32]) := by
    rw [List.map_map, List.map_map]
    exact List.map_congr_left fun ws _ => tl_joinW ws
  rw [e2]
  refine spl_or _ (by simpa using h) ?_
  intro ws hws w hw
  obtain ⟨us, hu, rfl⟩ := List.mem_map.mp hws
  obtain ⟨z, hz, rfl⟩ := List.mem_map.mp hw
  exact hp us hu z hz
theorem split_sp {ws : List Str} (h : ws ≠ []) (hp : ∀ w ∈ ws, (32 : Nat) ∉ tl w) : Txt.split (Txt.join " " ws) " " = ws :=
  split_join (s := 32) (S := []) (by decide +kernel) (by decide +kernel) h hp
theorem split_nl {ws : List Str} (h : ws ≠ []) (hp : ∀ w ∈ ws, (10 : Nat) ∉ tl w) : Txt.split (Txt.join "\n" ws) "\n" = ws :=
  split_join (s := 10) (S := []) (by decide +kernel) (by decide +kernel) h hp
end
set_option Elab.async false
set_option linter.all false
set_option maxRecDepth 100000
set_option maxHeartbeats 4000000
section
open PySem L2
/-! the rules at known data -/
theorem seq_step {s u : SS} {E : SEnds} {Γ : GEnv} {m : Mem} (h : ∀ R, R = u E → s { E with nx := R } Γ m) : sSeq s u E Γ m := h _ rfl
theorem if_step {c : ST} {s u : SS} {E : SEnds} {Γ : GEnv} {m : Mem} (h : ∀ S U, S = s E → U = u E → c Γ m fun k m1 => match k with | true => S Γ m1 | false => U Γ m1) : sIf c s u E Γ m := h _ _ rfl rfl
def slD (d : D) (lo hi : Option Int) (m : Mem) (P : PD) : Prop := match d with
  | .tup ds => ¬ (HT.sIx ds.length 0 lo = 0 ∧ HT.sIx ds.length ds.length hi = ds.length) ∧ P (.tup (cutD ds lo hi)) m
  | .lst ds => P (.lst (cutD ds lo hi)) m
  | .ref a => ∃ ds, m a = some (.lst ds) ∧ P (.lst (cutD ds lo hi)) m
  | .scr ns => P (.lst (cutD (ns.map .int) lo hi)) m
  | _ => False
theorem for_step {si : SI} {g : SG} {b : SS} {E : SEnds} {Γ : GEnv} {m : Mem} (h : ∀ G : D → GEnv → Mem → SEnds → Prop, G = (fun d Γ m E' => g d Γ m (b E')) → si Γ m fun n item ok m1 => ∃ Pv : Nat → GEnv → Mem → Prop, Pv 0 Γ m1 ∧ (∀ i Γ m, i ≤ n → Pv i Γ m → ok m) ∧
    (∀ i Γ m, i < n → Pv i Γ m → G (item i) Γ m { E with nx := Pv (i + 1), ct := Pv (i + 1), bk := E.nx }) ∧ ∀ Γ m, Pv n Γ m → E.nx Γ m) : sFor si g b E Γ m := h _ rfl
theorem frz_step {i : Nat} {s : SS} {E : SEnds} {Γ : GEnv} {m : Mem} {a : Addr} {ds : List D} (h1 : Γ[i]? = some (some (.ref a))) (h2 : m a = some (.lst ds)) (h : s E (Γ.set i (some (.lst ds))) (mdel m a)) : sFreeze i s E Γ m := by
  unfold sFreeze
  rw [h1]
  exact ⟨ds, h2, h⟩
theorem cut_from (ds : List D) (k : Nat) : cutD ds (some (k : Int)) none = ds.drop k := by
  unfold cutD
  rw [HT.sIx_nat, HT.sIx_none]
  by_cases h : k ≤ ds.length
  · rw [Nat.min_eq_left h, List.take_of_length_le (by rw [List.length_drop]; omega)]
  · rw [Nat.min_eq_right (by omega), List.drop_length, List.drop_of_length_le (by omega)]
    simp
theorem cut1 (ds : List D) : cutD ds (some 1) none = ds.drop 1 := cut_from ds 1
theorem cut2 (ds : List D) : cutD ds (some 2) none = ds.drop 2 := cut_from ds 2
theorem cut3 (ds : List D) : cutD ds (some 3) none = ds.drop 3 := cut_from ds 3
theorem cut_to (ds : List D) (k : Nat) : cutD ds none (some (k : Int)) = ds.take k := by
  unfold cutD
  rw [HT.sIx_nat, HT.sIx_none, List.drop_zero, Nat.sub_zero]
  by_cases h : k ≤ ds.length
  · rw [Nat.min_eq_left h]
  · rw [Nat.min_eq_right (by omega), List.take_of_length_le (Nat.le_refl _), List.take_of_length_le (by omega)]
theorem cut_mid (ds : List D) (j k : Nat) (hj : j ≤ k) (hk : k ≤ ds.length) : cutD ds (some (j : Int)) (some (k : Int)) = (ds.drop j).take (k - j) := by
  unfold cutD
  rw [HT.sIx_nat, HT.sIx_nat, Nat.min_eq_left hk, Nat.min_eq_left (by omega)]
theorem q_sl_lst {so : SE} {sl sh : SO} {Γ : GEnv} {m : Mem} {P : PD} {ds : List D} (hl : sl = oNo ∨ ∃ k, sl = oSome (sC (.int k))) : True := trivial
theorem q_eq_str_false {x y : Str} {m : Mem} {P : PD} : rhoEq false (.str x) (.str y) m P = P (.bl (decide (x = y))) m := by simp [rhoEq]
theorem q_eq_int_false {x y : Int} {m : Mem} {P : PD} : rhoEq false (.int x) (.int y) m P = P (.bl (decide (x = y))) m := by simp [rhoEq]
theorem q_eq_bl_false {x y : Bool} {m : Mem} {P : PD} : rhoEq false (.bl x) (.bl y) m P = P (.bl (decide (x = y))) m := by simp only [rhoEq, Bool.true_xor, Bool.false_xor]
theorem q_eq_tup_false {x y : List D} {m : Mem} {P : PD} : rhoEq false (.tup x) (.tup y) m P = ∃ k, eqD (.tup x) (.tup y) k ∧ P (.bl (k)) m := by simp only [rhoEq, Bool.true_xor, Bool.false_xor]
theorem q_eq_lst_false {x y : List D} {m : Mem} {P : PD} : rhoEq false (.lst x) (.lst y) m P = ∃ k, eqD (.lst x) (.lst y) k ∧ P (.bl (k)) m := by simp only [rhoEq, Bool.true_xor, Bool.false_xor]
theorem q_in_ch_false {x z : Str} {m : Mem} {P : PD} : rhoIn false (.str x) (.str z) m P = ∃ c, x = ⟨#[c]⟩ ∧ P (.bl (decide (c ∈ z.cps.toList))) m := by simp only [rhoIn, Bool.true_xor, Bool.false_xor]
theorem q_in_lst_false {x : Str} {ds : List D} {m : Mem} {P : PD} : rhoIn false (.str x) (.lst ds) m P = ∃ xs : List Str, ds = xs.map D.str ∧ P (.bl (decide (x ∈ xs))) m := by simp only [rhoIn, asQ, Bool.true_xor, Bool.false_xor, eq_comm]
theorem q_in_tup_false {x : Str} {ds : List D} {m : Mem} {P : PD} : rhoIn false (.str x) (.tup ds) m P = ∃ xs : List Str, ds = xs.map D.str ∧ P (.bl (decide (x ∈ xs))) m := by simp only [rhoIn, asQ, Bool.true_xor, Bool.false_xor, eq_comm]
theorem q_in_ref_false {x : Str} {a : Addr} {m : Mem} {P : PD} : rhoIn false (.str x) (.ref a) m P = ∃ xs : List Str, m a = some (.lst (xs.map D.str)) ∧ P (.bl (decide (x ∈ xs))) m := by simp only [rhoIn, asQ, Bool.true_xor, Bool.false_xor, eq_comm]
theorem q_eq_ni_false {j : Int} {m : Mem} {P : PD} : rhoEq false .non (.int j) m P = P (.bl (false)) m := by simp only [rhoEq, Bool.true_xor, Bool.false_xor]
theorem q_isn_false {d : D} {m : Mem} {P : PD} : rhoIsN false d .non m P = P (.bl (isNon d)) m := by simp only [rhoIsN, Bool.true_xor, Bool.false_xor]
theorem q_eq_str_true {x y : Str} {m : Mem} {P : PD} : rhoEq true (.str x) (.str y) m P = P (.bl (!decide (x = y))) m := by simp [rhoEq]
theorem q_eq_int_true {x y : Int} {m : Mem} {P : PD} : rhoEq true (.int x) (.int y) m P = P (.bl (!decide (x = y))) m := by simp [rhoEq]
theorem q_eq_bl_true {x y : Bool} {m : Mem} {P : PD} : rhoEq true (.bl x) (.bl y) m P = P (.bl (!decide (x = y))) m := by simp only [rhoEq, Bool.true_xor, Bool.false_xor]
theorem q_eq_tup_true {x y : List D} {m : Mem} {P : PD} : rhoEq true (.tup x) (.tup y) m P = ∃ k, eqD (.tup x) (.tup y) k ∧ P (.bl (!k)) m := by simp only [rhoEq, Bool.true_xor, Bool.false_xor]
theorem q_eq_lst_true {x y : List D} {m : Mem} {P : PD} : rhoEq true (.lst x) (.lst y) m P = ∃ k, eqD (.lst x) (.lst y) k ∧ P (.bl (!k)) m := by simp only [rhoEq, Bool.true_xor, Bool.false_xor]
theorem q_in_ch_true {x z : Str} {m : Mem} {P : PD} : rhoIn true (.str x) (.str z) m P = ∃ c, x = ⟨#[c]⟩ ∧ P (.bl (!decide (c ∈ z.cps.toList))) m := by simp only [rhoIn, Bool.true_xor, Bool.false_xor]
theorem q_in_lst_true {x : Str} {ds : List D} {m : Mem} {P : PD} : rhoIn true (.str x) (.lst ds) m P = ∃ xs : List Str, ds = xs.map D.str ∧ P (.bl (!decide (x ∈ xs))) m := by simp only [rhoIn, asQ, Bool.true_xor, Bool.false_xor, eq_comm]
theorem q_in_tup_true {x : Str} {ds : List D} {m : Mem} {P : PD} : rhoIn true (.str x) (.tup ds) m P = ∃ xs : List Str, ds = xs.map D.str ∧ P (.bl (!decide (x ∈ xs))) m := by simp only [rhoIn, asQ, Bool.true_xor, Bool.false_xor, eq_comm]
theorem q_in_ref_true {x : Str} {a : Addr} {m : Mem} {P : PD} : rhoIn true (.str x) (.ref a) m P = ∃ xs : List Str, m a = some (.lst (xs.map D.str)) ∧ P (.bl (!decide (x ∈ xs))) m := by simp only [rhoIn, asQ, Bool.true_xor, Bool.false_xor, eq_comm]
theorem q_eq_ni_true {j : Int} {m : Mem} {P : PD} : rhoEq true .non (.int j) m P = P (.bl (!false)) m := by simp only [rhoEq, Bool.true_xor, Bool.false_xor]
theorem q_isn_true {d : D} {m : Mem} {P : PD} : rhoIsN true d .non m P = P (.bl (!isNon d)) m := by simp only [rhoIsN, Bool.true_xor, Bool.false_xor]
theorem q_len_str {z : Str} {m : Mem} {P : PD} : rhoLen [.str z] m P = (z.length ≤ 1000000 ∧ P (.int z.length) m) := by rfl
theorem q_len_lst {ds : List D} {m : Mem} {P : PD} : rhoLen [.lst ds] m P = P (.int ds.length) m := by simp [rhoLen, asQ]
theorem q_len_tup {ds : List D} {m : Mem} {P : PD} : rhoLen [.tup ds] m P = P (.int ds.length) m := by simp [rhoLen, asQ]
theorem q_len_ref {a : Addr} {m : Mem} {P : PD} : rhoLen [.ref a] m P = ∃ es, m a = some (.lst es) ∧ P (.int es.length) m := by simp [rhoLen, asQ]
theorem q_ix_lst0 {ds : List D} {m : Mem} {P : PD} : rhoIx (.lst ds) (.int 0) m P = ∃ d, ds[0]? = some d ∧ P d m := by exact propext ⟨fun ⟨j, es, d, e1, e2, e3, e4⟩ => (by have e2 : es = ds := e2; have q : j = 0 := (by omega); subst q; subst e2; exact ⟨d, e3, e4⟩), fun ⟨d, e3, e4⟩ => ⟨0, ds, d, rfl, rfl, e3, e4⟩⟩
theorem q_ix_tup0 {ds : List D} {m : Mem} {P : PD} : rhoIx (.tup ds) (.int 0) m P = ∃ d, ds[0]? = some d ∧ P d m := by exact propext ⟨fun ⟨j, es, d, e1, e2, e3, e4⟩ => (by have e2 : es = ds := e2; have q : j = 0 := (by omega); subst q; subst e2; exact ⟨d, e3, e4⟩), fun ⟨d, e3, e4⟩ => ⟨0, ds, d, rfl, rfl, e3, e4⟩⟩
theorem q_ix_ref0 {a : Addr} {m : Mem} {P : PD} : rhoIx (.ref a) (.int 0) m P = ∃ es, m a = some (.lst es) ∧ ∃ d, es[0]? = some d ∧ P d m := by exact propext ⟨fun ⟨j, es, d, e1, e2, e3, e4⟩ => (by have q : j = 0 := (by omega); subst q; exact ⟨es, e2, d, e3, e4⟩), fun ⟨es, e2, d, e3, e4⟩ => ⟨0, es, d, rfl, e2, e3, e4⟩⟩
theorem q_ix_lst1 {ds : List D} {m : Mem} {P : PD} : rhoIx (.lst ds) (.int 1) m P = ∃ d, ds[1]? = some d ∧ P d m := by exact propext ⟨fun ⟨j, es, d, e1, e2, e3, e4⟩ => (by have e2 : es = ds := e2; have q : j = 1 := (by omega); subst q; subst e2; exact ⟨d, e3, e4⟩), fun ⟨d, e3, e4⟩ => ⟨1, ds, d, rfl, rfl, e3, e4⟩⟩
theorem q_ix_tup1 {ds : List D} {m : Mem} {P : PD} : rhoIx (.tup ds) (.int 1) m P = ∃ d, ds[1]? = some d ∧ P d m := by exact propext ⟨fun ⟨j, es, d, e1, e2, e3, e4⟩ => (by have e2 : es = ds := e2; have q : j = 1 := (by omega); subst q; subst e2; exact ⟨d, e3, e4⟩), fun ⟨d, e3, e4⟩ => ⟨1, ds, d, rfl, rfl, e3, e4⟩⟩
theorem q_ix_ref1 {a : Addr} {m : Mem} {P : PD} : rhoIx (.ref a) (.int 1) m P = ∃ es, m a = some (.lst es) ∧ ∃ d, es[1]? = some d ∧ P d m := by exact propext ⟨fun ⟨j, es, d, e1, e2, e3, e4⟩ => (by have q : j = 1 := (by omega); subst q; exact ⟨es, e2, d, e3, e4⟩), fun ⟨es, e2, d, e3, e4⟩ => ⟨1, es, d, rfl, e2, e3, e4⟩⟩
theorem q_ix_lst2 {ds : List D} {m : Mem} {P : PD} : rhoIx (.lst ds) (.int 2) m P = ∃ d, ds[2]? = some d ∧ P d m := by exact propext ⟨fun ⟨j, es, d, e1, e2, e3, e4⟩ => (by have e2 : es = ds := e2; have q : j = 2 := (by omega); subst q; subst e2; exact ⟨d, e3, e4⟩), fun ⟨d, e3, e4⟩ => ⟨2, ds, d, rfl, rfl, e3, e4⟩⟩
theorem q_ix_tup2 {ds : List D} {m : Mem} {P : PD} : rhoIx (.tup ds) (.int 2) m P = ∃ d, ds[2]? = some d ∧ P d m := by exact propext ⟨fun ⟨j, es, d, e1, e2, e3, e4⟩ => (by have e2 : es = ds := e2; have q : j = 2 := (by omega); subst q; subst e2; exact ⟨d, e3, e4⟩), fun ⟨d, e3, e4⟩ => ⟨2, ds, d, rfl, rfl, e3, e4⟩⟩
theorem q_ix_ref2 {a : Addr} {m : Mem} {P : PD} : rhoIx (.ref a) (.int 2) m P = ∃ es, m a = some (.lst es) ∧ ∃ d, es[2]? = some d ∧ P d m := by exact propext ⟨fun ⟨j, es, d, e1, e2, e3, e4⟩ => (by have q : j = 2 := (by omega); subst q; exact ⟨es, e2, d, e3, e4⟩), fun ⟨es, e2, d, e3, e4⟩ => ⟨2, es, d, rfl, e2, e3, e4⟩⟩
theorem q_ix_lst3 {ds : List D} {m : Mem} {P : PD} : rhoIx (.lst ds) (.int 3) m P = ∃ d, ds[3]? = some d ∧ P d m := by exact propext ⟨fun ⟨j, es, d, e1, e2, e3, e4⟩ => (by have e2 : es = ds := e2; have q : j = 3 := (by omega); subst q; subst e2; exact ⟨d, e3, e4⟩), fun ⟨d, e3, e4⟩ => ⟨3, ds, d, rfl, rfl, e3, e4⟩⟩
theorem q_ix_tup3 {ds : List D} {m : Mem} {P : PD} : rhoIx (.tup ds) (.int 3) m P = ∃ d, ds[3]? = some d ∧ P d m := by exact propext ⟨fun ⟨j, es, d, e1, e2, e3, e4⟩ => (by have e2 : es = ds := e2; have q : j = 3 := (by omega); subst q; subst e2; exact ⟨d, e3, e4⟩), fun ⟨d, e3, e4⟩ => ⟨3, ds, d, rfl, rfl, e3, e4⟩⟩
theorem q_ix_ref3 {a : Addr} {m : Mem} {P : PD} : rhoIx (.ref a) (.int 3) m P = ∃ es, m a = some (.lst es) ∧ ∃ d, es[3]? = some d ∧ P d m := by exact propext ⟨fun ⟨j, es, d, e1, e2, e3, e4⟩ => (by have q : j = 3 := (by omega); subst q; exact ⟨es, e2, d, e3, e4⟩), fun ⟨es, e2, d, e3, e4⟩ => ⟨3, es, d, rfl, e2, e3, e4⟩⟩
theorem q_ix_lst4 {ds : List D} {m : Mem} {P : PD} : rhoIx (.lst ds) (.int 4) m P = ∃ d, ds[4]? = some d ∧ P d m := by exact propext ⟨fun ⟨j, es, d, e1, e2, e3, e4⟩ => (by have e2 : es = ds := e2; have q : j = 4 := (by omega); subst q; subst e2; exact ⟨d, e3, e4⟩), fun ⟨d, e3, e4⟩ => ⟨4, ds, d, rfl, rfl, e3, e4⟩⟩
theorem q_ix_tup4 {ds : List D} {m : Mem} {P : PD} : rhoIx (.tup ds) (.int 4) m P = ∃ d, ds[4]? = some d ∧ P d m := by exact propext ⟨fun ⟨j, es, d, e1, e2, e3, e4⟩ => (by have e2 : es = ds := e2; have q : j = 4 := (by omega); subst q; subst e2; exact ⟨d, e3, e4⟩), fun ⟨d, e3, e4⟩ => ⟨4, ds, d, rfl, rfl, e3, e4⟩⟩
theorem q_ix_ref4 {a : Addr} {m : Mem} {P : PD} : rhoIx (.ref a) (.int 4) m P = ∃ es, m a = some (.lst es) ∧ ∃ d, es[4]? = some d ∧ P d m := by exact propext ⟨fun ⟨j, es, d, e1, e2, e3, e4⟩ => (by have q : j = 4 := (by omega); subst q; exact ⟨es, e2, d, e3, e4⟩), fun ⟨es, e2, d, e3, e4⟩ => ⟨4, es, d, rfl, e2, e3, e4⟩⟩
theorem q_ix_lst {ds : List D} {i : Nat} {m : Mem} {P : PD} : rhoIx (.lst ds) (.int (i : Nat)) m P = ∃ d, ds[i]? = some d ∧ P d m := by exact propext ⟨fun ⟨j, es, d, e1, e2, e3, e4⟩ => (by have e2 : es = ds := e2; have q : j = i := (by omega); subst q; subst e2; exact ⟨d, e3, e4⟩), fun ⟨d, e3, e4⟩ => ⟨i, ds, d, rfl, rfl, e3, e4⟩⟩
theorem q_ix_tup {ds : List D} {i : Nat} {m : Mem} {P : PD} : rhoIx (.tup ds) (.int (i : Nat)) m P = ∃ d, ds[i]? = some d ∧ P d m := by exact propext ⟨fun ⟨j, es, d, e1, e2, e3, e4⟩ => (by have e2 : es = ds := e2; have q : j = i := (by omega); subst q; subst e2; exact ⟨d, e3, e4⟩), fun ⟨d, e3, e4⟩ => ⟨i, ds, d, rfl, rfl, e3, e4⟩⟩
theorem q_b {g : Int → Int → Bool} {i j : Int} {m : Mem} {P : PD} : rhoB g (.int i) (.int j) m P = P (.bl (g i j)) m := by rfl
theorem q_i0 {g : Int → Int → Int} {i j : Int} {m : Mem} {P : PD} : rhoI0 g (.int i) (.int j) m P = P (.int (g i j)) m := by rfl
theorem q_i {C : Int → Int → Prop} {g : Int → Int → Int} {i j : Int} {m : Mem} {P : PD} : rhoI C g (.int i) (.int j) m P = (C i j ∧ P (.int (g i j)) m) := by rfl
theorem q_add_i {i j : Int} {m : Mem} {P : PD} : rhoAdd (.int i) (.int j) m P = P (.int (i + j)) m := by rfl
theorem q_add_s {x y : Str} {m : Mem} {P : PD} : rhoAdd (.str x) (.str y) m P = (x.length + y.length ≤ 1000000 ∧ P (.str (x ++ y)) m) := by rfl
theorem q_add_l {x y : List D} {m : Mem} {P : PD} : rhoAdd (.lst x) (.lst y) m P = (x.length + y.length ≤ 1000000 ∧ P (.lst (x ++ y)) m) := by rfl
theorem q_mul_i {i j : Int} {m : Mem} {P : PD} : rhoMul (.int i) (.int j) m P = ((-(2 ^ 64) < j ∧ j < 2 ^ 64) ∧ P (.int (i * j)) m) := by rfl
theorem q_mul_s {x : Str} {n : Int} {m : Mem} {P : PD} : rhoMul (.str x) (.int n) m P = ((0 ≤ n ∧ n ≤ 100 ∧ x.length ≤ 10000) ∧ P (.str (strRep x n)) m) := by rfl
theorem q_app {a : Addr} {x : D} {m : Mem} {P : PD} : rhoApp (.ref a) [x] m P = ∃ xs, m a = some (.lst xs) ∧ xs.length < 1000000 ∧ P .non (mset m a (.lst (xs ++ [x]))) := by rfl
theorem q_islst {a : Addr} {m : Mem} : isLstM (.ref a) m = ∃ ds, m a = some (.lst ds) := by rfl
theorem q_isstr {z : Str} {m : Mem} : isStrD (.str z) m = True := by rfl
theorem q_split {x y : Str} {m : Mem} {P : PD} : rhoSplit (.str x) [.str y] m P = (y.length ≠ 0 ∧ x.length ≤ 1000000 ∧ P (.lst ((Txt.split x y).map .str)) m) := by rfl
theorem q_join {x : Str} {d : D} {m : Mem} {P : PD} : rhoJoin (.str x) [d] m P = ∃ ys : List Str, asQ m d (ys.map .str) ∧ (ys.map (·.length)).sum + ys.length * x.length ≤ 16777216 ∧ P (.str (Txt.join x ys)) m := by rfl
theorem q_str_i {i : Int} {m : Mem} {P : PD} : rhoStr [.int i] m P = (i.natAbs < 1000000 ∧ P (.str (toString i : String)) m) := by rfl
theorem q_str_s {z : Str} {m : Mem} {P : PD} : rhoStr [.str z] m P = P (.str z) m := by rfl
theorem q_int_i {i : Int} {m : Mem} {P : PD} : rhoInt [.int i] m P = P (.int i) m := by rfl
theorem q_int_b {b : Bool} {m : Mem} {P : PD} : rhoInt [.bl b] m P = P (.int (if b then 1 else 0)) m := by rfl
theorem q_tuple_l {ds : List D} {m : Mem} {P : PD} : rhoTuple [.lst ds] m P = P (.tup ds) m := by simp [rhoTuple, asQ]
theorem q_tuple_r {a : Addr} {m : Mem} {P : PD} : rhoTuple [.ref a] m P = ∃ es, m a = some (.lst es) ∧ P (.tup es) m := by simp [rhoTuple, asQ]
theorem q_list_l {ds : List D} {m : Mem} {P : PD} : rhoList [.lst ds] m P = P (.lst ds) m := by simp [rhoList, asQ]
theorem q_list_t {ds : List D} {m : Mem} {P : PD} : rhoList [.tup ds] m P = P (.lst ds) m := by simp [rhoList, asQ]
theorem q_list_r {a : Addr} {m : Mem} {P : PD} : rhoList [.ref a] m P = ∃ es, m a = some (.lst es) ∧ P (.lst es) m := by simp [rhoList, asQ]
theorem q_listM_t {ds : List D} {m : Mem} {P : PD} : rhoListM [.tup ds] m P = ∀ a, m a = none → P (.ref a) (mset m a (.lst ds)) := by simp [rhoListM, asQ]
theorem q_asL_l {m : Mem} {ds es : List D} : asL m (.lst ds) es = (es = ds) := by rfl
theorem q_asL_r {m : Mem} {a : Addr} {es : List D} : asL m (.ref a) es = (m a = some (.lst es)) := by rfl
theorem q_asQ_l {m : Mem} {ds es : List D} : asQ m (.lst ds) es = (es = ds) := by rfl
theorem q_asQ_t {m : Mem} {ds es : List D} : asQ m (.tup ds) es = (es = ds) := by rfl
theorem q_asQ_r {m : Mem} {a : Addr} {es : List D} : asQ m (.ref a) es = (m a = some (.lst es)) := by rfl
theorem q_asT {ds es : List D} : asT (.tup ds) es = (es = ds) := by rfl
theorem q_sl1 {so : SE} {k : Int} {Γ : GEnv} {m : Mem} {P : PD} : sSl so (oSome (sC (.int k))) oNo Γ m P = so Γ m fun d m1 => slD d (some k) none m1 P := by rfl
theorem q_sl0 {so : SE} {k : Int} {Γ : GEnv} {m : Mem} {P : PD} : sSl so oNo (oSome (sC (.int k))) Γ m P = so Γ m fun d m1 => slD d none (some k) m1 P := by rfl
theorem q_sl2 {so : SE} {j k : Int} {Γ : GEnv} {m : Mem} {P : PD} : sSl so (oSome (sC (.int j))) (oSome (sC (.int k))) Γ m P = so Γ m fun d m1 => slD d (some j) (some k) m1 P := by rfl
theorem q_slL {ds : List D} {lo hi : Option Int} {m : Mem} {P : PD} : slD (.lst ds) lo hi m P = P (.lst (cutD ds lo hi)) m := by rfl
theorem q_slR {a : Addr} {lo hi : Option Int} {m : Mem} {P : PD} : slD (.ref a) lo hi m P = ∃ ds, m a = some (.lst ds) ∧ P (.lst (cutD ds lo hi)) m := by rfl
theorem q_slT {ds : List D} {lo hi : Option Int} {m : Mem} {P : PD} : slD (.tup ds) lo hi m P = (¬ (HT.sIx ds.length 0 lo = 0 ∧ HT.sIx ds.length ds.length hi = ds.length) ∧ P (.tup (cutD ds lo hi)) m) := by rfl
theorem q_js0 {acc : Str} {Γ : GEnv} {m : Mem} {P : Str → Mem → Prop} : sJs [] acc Γ m P = P acc m := by rfl
theorem q_js {s : SE} {ss : List SE} {acc : Str} {Γ : GEnv} {m : Mem} {P : Str → Mem → Prop} : sJs (s :: ss) acc Γ m P = s Γ m fun d m1 => match d with | .str y => (acc ++ y).length ≤ 1000000 ∧ sJs ss (acc ++ y) Γ m1 P | _ => False := by rfl
theorem q_isnon : isNon .non = true := by rfl
theorem q_isnon_s {x : Str} : isNon (.str x) = false := by rfl
theorem q_isnon_i {x : Int} : isNon (.int x) = false := by rfl
end
local macro_rules | `(tactic| walk_at "hbq") => `(tactic| simp only [sSeq, sNext, sIf, sRet, sRetN, sDrop, sSet, sTest, sBin, sVar, sC, sNot, sAnd, sOr, sNotV, sAndV, sOrV, sIfE, sCall, aNil, aCons, aStar, sTup, sLst, sLstM, sBlt, sBM, sChain, sAugI, startG, gN, gTuple, gsCons, gsNil, sNever, sJoined, sFmt, List.map_cons, List.map_nil, List.length_cons, List.length_nil, List.replicate, List.cons_append, List.nil_append, List.getElem?_cons_zero, List.getElem?_cons_succ, List.set_cons_zero, List.set_cons_succ, Nat.sub_self, Nat.reduceSub, Nat.reduceAdd, Bool.not_true, Bool.not_false, decide_true, decide_false, ends1, oS, oN, Option.some.injEq, exists_eq_left', exists_eq_left, q_eq_str_false, q_eq_int_false, q_eq_bl_false, q_eq_tup_false, q_eq_lst_false, q_in_ch_false, q_in_lst_false, q_in_tup_false, q_in_ref_false, q_eq_ni_false, q_isn_false, q_eq_str_true, q_eq_int_true, q_eq_bl_true, q_eq_tup_true, q_eq_lst_true, q_in_ch_true, q_in_lst_true, q_in_tup_true, q_in_ref_true, q_eq_ni_true, q_isn_true, q_len_str, q_len_lst, q_len_tup, q_len_ref, q_ix_lst0, q_ix_tup0, q_ix_ref0, q_ix_lst1, q_ix_tup1, q_ix_ref1, q_ix_lst2, q_ix_tup2, q_ix_ref2, q_ix_lst3, q_ix_tup3, q_ix_ref3, q_ix_lst4, q_ix_tup4, q_ix_ref4, q_ix_lst, q_ix_tup, q_b, q_i0, q_i, q_add_i, q_add_s, q_add_l, q_mul_i, q_mul_s, q_app, q_islst, q_isstr, q_split, q_join, q_str_i, q_str_s, q_int_i, q_int_b, q_tuple_l, q_tuple_r, q_list_l, q_list_t, q_list_r, q_listM_t, q_asL_l, q_asL_r, q_asQ_l, q_asQ_t, q_asQ_r, q_asT, q_sl1, q_sl0, q_sl2, q_slL, q_slR, q_slT, q_js0, q_js, q_isnon, q_isnon_s, q_isnon_i])
local macro_rules | `(tactic| walk_at "hbr") => `(tactic| simp only [sSeq, sNext, sIf, sRet, sRetN, sDrop, sSet, sTest, sBin, sVar, sC, sNot, sAnd, sOr, sNotV, sAndV, sOrV, sIfE, sCall, aNil, aCons, aStar, sTup, sLst, sLstM, sBlt, sBM, sChain, sAugI, startG, gN, gTuple, gsCons, gsNil, sNever, sJoined, sFmt, List.map_cons, List.map_nil, List.length_cons, List.length_nil, List.replicate, List.cons_append, List.nil_append, List.getElem?_cons_zero, List.getElem?_cons_succ, List.set_cons_zero, List.set_cons_succ, Nat.sub_self, Nat.reduceSub, Nat.reduceAdd, Bool.not_true, Bool.not_false, decide_true, decide_false, ends1, oS, oN, Option.some.injEq, exists_eq_left', exists_eq_left, q_eq_str_false, q_eq_int_false, q_eq_bl_false, q_eq_tup_false, q_eq_lst_false, q_in_ch_false, q_in_lst_false, q_in_tup_false, q_in_ref_false, q_eq_ni_false, q_isn_false, q_eq_str_true, q_eq_int_true, q_eq_bl_true, q_eq_tup_true, q_eq_lst_true, q_in_ch_true, q_in_lst_true, q_in_tup_true, q_in_ref_true, q_eq_ni_true, q_isn_true, q_len_str, q_len_lst, q_len_tup, q_len_ref, q_ix_lst0, q_ix_tup0, q_ix_ref0, q_ix_lst1, q_ix_tup1, q_ix_ref1, q_ix_lst2, q_ix_tup2, q_ix_ref2, q_ix_lst3, q_ix_tup3, q_ix_ref3, q_ix_lst4, q_ix_tup4, q_ix_ref4, q_ix_lst, q_ix_tup, q_b, q_i0, q_i, q_add_i, q_add_s, q_add_l, q_mul_i, q_mul_s, q_app, q_islst, q_isstr, q_split, q_join, q_str_i, q_str_s, q_int_i, q_int_b, q_tuple_l, q_tuple_r, q_list_l, q_list_t, q_list_r, q_listM_t, q_asL_l, q_asL_r, q_asQ_l, q_asQ_t, q_asQ_r, q_asT, q_sl1, q_sl0, q_sl2, q_slL, q_slR, q_slT, q_js0, q_js, q_isnon, q_isnon_s, q_isnon_i, sCVal, true_and, and_true, eq_self, sRetN, sBreak, sDictSet])
set_option Elab.async false
set_option linter.all false
set_option maxRecDepth 100000
set_option maxHeartbeats 4000000
section
open PySem L2
variable {K : PySem.W.Frag} {a : Ad} {ds : List D} {m : Mem} {P : PD}
theorem endN {m : Mem} {P : PD} {d : D} (h : P d m) : ∃ m'', Le m'' m ∧ P d m'' := ⟨m, Le.refl, h⟩
def T_check_known : PT1 := fun ds m P => ∃ (o : Option Str) (xs : List Str), ds = [oS o, .lst (xs.map .str)] ∧ Known xs o ∧ P .non m
theorem p_check_known (h : T_check_known ds m P) : s_check_known K a (ends1 P) (startG N_check_known ds) m := by
  obtain ⟨o, xs, rfl, hk, h⟩ := h
  unfold s_check_known
  cases o with
  | none => walk_at "hbs"; exact endN h
  | some x =>
    walk_at "hbs"
    refine ⟨xs, rfl, ?_⟩
    rw [decide_eq_true (show x ∈ xs from hk)]
    exact endN h
def T_Claim_init (a : Ad) : PT1 := fun ds m P => ∃ p C w b, ds = [.ref p, w, b] ∧ m p = some (.ins C []) ∧ GClaim a C ∧ P .non (mset m p (.ins C [("words", w), ("positive", b)]))
theorem p_Claim_init (h : T_Claim_init a ds m P) : s_Claim_init K a (ends1 P) (startG N_Claim_init ds) m := by
  obtain ⟨p, C, w, b, rfl, hm, hC, h⟩ := h
  unfold s_Claim_init sFldSet
  walk_at "hbs"
  refine ⟨p, C, [], rfl, hm, hC, by simp, p, C, _, rfl, mset_same, hC, by show 1 < 900; decide, ?_⟩
  rw [mset_mset]
  exact endN h
def T_is_name : PT1 := fun ds m P => ∃ z : Str, ds = [.str z] ∧ NameOK z ∧ P (.bl true) m
theorem cps_at {z : Str} {i : Nat} (hi : i < z.cps.size) : z.cps.getD i 0 ∈ z.cps.toList := by
  have : z.cps.getD i 0 = z.cps[i] := by simp [Array.getD, hi]
  rw [this]; simp
theorem p_is_name (h : T_is_name ds m P) : s_is_name K a (ends1 P) (startG N_is_name ds) m := by
  obtain ⟨z, rfl, hz, h⟩ := h
  unfold s_is_name sFor iStrD
  have hl := hz.len
  obtain ⟨c, hc, hcl⟩ := hz.first
  have h0 : z ≠ "" := by rintro rfl; cases hc
  walk_at "hbs"
  rw [decide_eq_false h0]
  refine ⟨by omega, ?_⟩
  rw [decide_eq_false (by omega)]
  refine ⟨["any", "end", "none", "not", "or"], rfl, ?_⟩
  rw [decide_eq_false hz.res]
  refine ⟨0, c, rfl, by omega, hc, c, rfl, ?_⟩
  rw [decide_eq_true hcl]
  refine ⟨z, rfl, fun i Γ m' => m' = m ∧ ∃ x, Γ = [some (.str z), x], ⟨rfl, _, rfl⟩, fun _ _ _ _ _ => trivial, ?_, ?_⟩
  · rintro i Γ m' hi ⟨rfl, x, rfl⟩
    have hm := hz.all _ (cps_at hi)
    walk_at "hbs"
    refine ⟨_, rfl, ?_⟩
    by_cases h1 : z.cps.getD i 0 ∈ lettersS.cps.toList
    · rw [decide_eq_true h1]; exact ⟨by simp, _, rfl⟩
    · rw [decide_eq_false h1]
      refine ⟨_, rfl, ?_⟩
      rw [decide_eq_true (hm.resolve_left h1)]
      exact ⟨by simp, _, rfl⟩
  · rintro Γ m' ⟨rfl, x, rfl⟩
    exact endN h
def T_check_names : PT1 := fun ds m P => ∃ (xs : List Str) (n : Nat), ds = [.lst (xs.map .str), .int n] ∧ (∀ z ∈ xs, NameOK z) ∧ xs.Nodup ∧ 1 ≤ xs.length ∧ xs.length ≤ n ∧ n ≤ 1000 ∧ P .non m
theorem dget_map {f : Str → D} {xs : List Str} {i : Nat} (hi : i < xs.length) : dget (xs.map f) i = f xs[i] := by
  unfold dget; simp [List.getD, hi]
theorem dgetM {A : Type} {f : A → D} {xs : List A} {i : Nat} (hi : i < xs.length) : dget (xs.map f) i = f xs[i] := by
  unfold dget; simp [List.getD, hi]
theorem not_in_take {xs : List Str} (h : xs.Nodup) {i : Nat} (hi : i < xs.length) : xs[i] ∉ xs.take i := by
  intro q
  obtain ⟨j, hj, e⟩ := List.mem_iff_getElem.mp q
  rw [List.length_take] at hj
  rw [List.getElem_take] at e
  have := (List.getElem_inj (h₀ := by omega) (h₁ := hi) h).mp e
  omega
theorem take_succ' {A : Type} {xs : List A} {i : Nat} (hi : i < xs.length) : xs.take (i + 1) = xs.take i ++ [xs[i]] := by
  rw [List.take_succ, List.getElem?_eq_getElem hi]; rfl
theorem p_check_names (h : T_check_names ds m P) : s_check_names K a T_is_name (ends1 P) (startG N_check_names ds) m := by
  obtain ⟨xs, n, rfl, h1, h2, h3, h4, h5, h⟩ := h
  unfold s_check_names sFor iLst
  walk_at "hbs"
  refine ⟨_, rfl, ?_⟩
  rw [List.length_map, decide_eq_true (by omega)]
  walk_at "hbs"
  rw [decide_eq_true (by omega)]
  refine ⟨by decide, fun p hp => ⟨_, rfl, fun i Γ m' => m' = mset m p (.lst ((xs.take i).map .str)) ∧ ∃ x, Γ = [some (.lst (xs.map .str)), some (.int n), some (.ref p), x], ⟨rfl, _, rfl⟩, fun _ _ _ _ _ => rfl, ?_, ?_⟩⟩
  · rintro i Γ m' hi ⟨rfl, x, rfl⟩
    rw [List.length_map] at hi
    rw [dget_map hi]
    unfold T_is_name
    walk_at "hbs"
    refine ⟨_, rfl, h1 _ (List.getElem_mem hi), _, mset_same, ?_⟩
    rw [decide_eq_false (not_in_take h2 hi)]
    refine ⟨⟨_, mset_same⟩, _, mset_same, ?_, ?_, _, rfl⟩
    · rw [List.length_map, List.length_take]; omega
    · rw [mset_mset, take_succ' hi, List.map_append]; rfl
  · rintro Γ m' ⟨rfl, x, rfl⟩
    exact ⟨m, Le.new Le.refl hp, h⟩
def T_names_refused : PT1 := fun ds m P => ∃ (xs : List Str) (n : Nat), ds = [.lst (xs.map .str), .int n] ∧ (∀ z ∈ xs, NameOK z) ∧ xs.Nodup ∧ 1 ≤ xs.length ∧ xs.length ≤ n ∧ n ≤ 1000 ∧ P (.bl false) m
theorem p_names_refused (h : T_names_refused ds m P) : s_names_refused K a T_check_names (ends1 P) (startG N_names_refused ds) m := by
  obtain ⟨xs, n, rfl, h1, h2, h3, h4, h5, h⟩ := h
  unfold s_names_refused
  walk_at "hbs"
  exact ⟨xs, n, rfl, h1, h2, h3, h4, h5, endN h⟩
def T_number_of : PT1 := fun ds m P => ∃ z : Str, ds = [.str z] ∧ ((∃ n : Nat, n ≤ 30 ∧ z = numS n ∧ P (.int n) m) ∨ (NameOK z ∧ P .non m))
theorem num_facts : ∀ n, n ≤ 30 → (numS n).length ≤ 4 ∧ numS n ≠ "" ∧ (∀ c ∈ (numS n).cps.toList, c ∈ digitsS.cps.toList) ∧ PySem.intText? (numS n) = some (n : Int) ∧ (∃ c, (numS n).cps.toList[0]? = some c ∧ ((⟨#[c]⟩ : Str) = "0" → (numS n).length = 1)) := by
  have : ∀ n ∈ List.range 31, (numS n).length ≤ 4 ∧ numS n ≠ "" ∧ (∀ c ∈ (numS n).cps.toList, c ∈ digitsS.cps.toList) ∧ PySem.intText? (numS n) = some (n : Int) ∧ ((numS n).cps.toList[0]?.isSome = true) ∧ ((⟨#[((numS n).cps.toList[0]?).getD 0]⟩ : Str) = "0" → (numS n).length = 1) := by decide +kernel
  intro n hn
  obtain ⟨q1, q2, q3, q4, q5, q6⟩ := this n (List.mem_range.mpr (by omega))
  refine ⟨q1, q2, q3, q4, ?_⟩
  cases e : (numS n).cps.toList[0]? with
  | none => rw [e] at q5; cases q5
  | some c => rw [e] at q6; exact ⟨c, rfl, q6⟩
theorem name_not_digits {z : Str} (hz : NameOK z) : ∃ c, z.cps.toList[0]? = some c ∧ c ∉ digitsS.cps.toList := by
  obtain ⟨c, hc, hl⟩ := hz.first
  refine ⟨c, hc, fun hd => ?_⟩
  have : ∀ c ∈ lettersS.cps.toList, c ∉ digitsS.cps.toList := by decide +kernel
  exact this c hl hd
theorem p_number_of (h : T_number_of ds m P) : s_number_of K a (ends1 P) (startG N_number_of ds) m := by
  obtain ⟨z, rfl, h⟩ := h
  unfold s_number_of sFor iStrD
  rcases h with ⟨n, hn, rfl, h⟩ | ⟨hz, h⟩
  · obtain ⟨q1, q2, q3, q4, c, q5, q6⟩ := num_facts n hn
    generalize numS n = z at *
    walk_at "hbs"
    rw [decide_eq_false q2]
    refine ⟨by omega, ?_⟩
    rw [decide_eq_false (by omega)]
    refine ⟨z, rfl, fun i Γ m' => m' = m ∧ ∃ x, Γ = [some (.str z), x], ⟨rfl, _, rfl⟩, fun _ _ _ _ _ => trivial, ?_, ?_⟩
    · rintro i Γ m' hi ⟨rfl, x, rfl⟩
      have hm := q3 _ (cps_at hi)
      walk_at "hbs"
      refine ⟨_, rfl, ?_⟩
      rw [decide_eq_true hm]
      exact ⟨by simp, _, rfl⟩
    · rintro Γ m' ⟨rfl, x, rfl⟩
      walk_at "hbs"
      refine ⟨0, c, rfl, by omega, q5, ?_⟩
      by_cases e : (⟨#[c]⟩ : Str) = "0"
      · rw [decide_eq_true e]
        refine ⟨by omega, ?_⟩
        rw [decide_eq_false (by have := q6 e; omega)]
        exact ⟨_, q4, by omega, endN h⟩
      · rw [decide_eq_false e]
        exact ⟨_, q4, by omega, endN h⟩
  · have h0 : z ≠ "" := by
      obtain ⟨c, hc, _⟩ := hz.first
      rintro rfl; cases hc
    obtain ⟨c, hc, hd⟩ := name_not_digits hz
    have hl := hz.len
    walk_at "hbs"
    rw [decide_eq_false h0]
    refine ⟨by omega, ?_⟩
    by_cases h4 : (4 : Int) < (z.length : Int)
    · rw [decide_eq_true h4]; exact endN h
    · rw [decide_eq_false h4]
      refine ⟨z, rfl, fun i Γ m' => i = 0 ∧ m' = m ∧ ∃ x, Γ = [some (.str z), x], ⟨rfl, rfl, _, rfl⟩, fun _ _ _ _ _ => trivial, ?_, ?_⟩
      · rintro i Γ m' hi ⟨rfl, rfl, x, rfl⟩
        walk_at "hbs"
        refine ⟨_, rfl, ?_⟩
        have e : z.cps.getD 0 0 = c := by
          have := (List.getElem?_eq_some_iff.mp hc).2
          simp [Array.getD, hi]
          simpa using this
        rw [e, decide_eq_false hd]
        exact endN h
      · rintro Γ m' ⟨e, rfl, x, rfl⟩
        exfalso
        have : 0 < z.cps.size := by
          have := (List.getElem?_eq_some_iff.mp hc).1
          simpa using this
        omega
end
set_option Elab.async false
set_option linter.all false
set_option maxRecDepth 100000
set_option maxHeartbeats 4000000
section
open PySem L2
variable {K : PySem.W.Frag} {a : Ad} {ds : List D} {m : Mem} {P : PD}
/-! claims -/
def T_Claim_invert (a : Ad) : PT1 := fun ds m P => ∃ d r, ds = [d] ∧ IsCl a d r ∧ P (clD (a.g "Claim") (!r.1, r.2)) m
theorem asO_cl {d : D} {r : Row} (h : IsCl a d r) : ∃ C, GClaim a C ∧ asO m d C [("words", .tup r.2.words), ("positive", .bl r.1)] := by
  obtain ⟨C, hC, rfl⟩ := h
  exact ⟨C, hC, rfl, rfl⟩
theorem sFld_cl {d : D} {r : Row} {Γ : GEnv} {j : Nat} {Q : PD} (h : IsCl a d r) (hj : Γ[j]? = some (some d)) (hq : Q (.tup r.2.words) m) : sFld (GClaim a) "words" (sVar j) Γ m Q := by
  obtain ⟨C, hC, ho⟩ := asO_cl (m := m) h
  unfold sFld sVar
  rw [hj]
  exact ⟨C, _, _, ho, hC, rfl, hq⟩
theorem sFld_clp {d : D} {r : Row} {Γ : GEnv} {j : Nat} {Q : PD} (h : IsCl a d r) (hj : Γ[j]? = some (some d)) (hq : Q (.bl r.1) m) : sFld (GClaim a) "positive" (sVar j) Γ m Q := by
  obtain ⟨C, hC, ho⟩ := asO_cl (m := m) h
  unfold sFld sVar
  rw [hj]
  exact ⟨C, _, _, ho, hC, rfl, hq⟩
theorem make_claim {C : Addr} {w b : D} {Q : PD} (hC : GClaim a C) (hq : Q (.obj C ["words", "positive"] [w, b]) m) : mkP C (T_Claim_init a) [w, b] m Q := by
  intro p hp
  refine ⟨p, C, w, b, rfl, mset_same, hC, rfl, _, m, ?_, hq⟩
  rw [mset_mset]
  exact Gh.obj hp
theorem p_Claim_invert (h : T_Claim_invert a ds m P) : s_Claim_invert K a (T_Claim_init a) (ends1 P) (startG N_Claim_invert ds) m := by
  obtain ⟨d, r, rfl, hr, h⟩ := h
  unfold s_Claim_invert sMake
  walk_at "hbs"
  refine sFld_cl hr rfl (sFld_clp hr rfl ?_)
  exact make_claim (.inl rfl) (endN h)
def T_Clause_init0 (a : Ad) : PT1 := fun ds m P => ∃ p xs, ds = [.ref p, .tup xs] ∧ m p = some (.ins (a.g "Clause") []) ∧ P .non (mset m p (.ins (a.g "Clause") [("_claims", .lst xs)]))
def T_Clause_init (a : Ad) : PT1 := starT 1 (T_Clause_init0 a)
theorem p_Clause_init (h : T_Clause_init0 a ds m P) : s_Clause_init K a (ends1 P) (startG N_Clause_init ds) m := by
  obtain ⟨p, xs, rfl, hm, h⟩ := h
  unfold s_Clause_init sFldSet
  walk_at "hbs"
  refine ⟨xs, rfl, p, _, [], rfl, hm, rfl, by simp, endN h⟩
theorem make_clause {xs : List D} {Q : PD} (hx : xs.length ≤ 900) (hq : Q (clauseD a xs) m) : mkP (a.g "Clause") (T_Clause_init a) xs m Q := by
  intro p hp
  refine ⟨by simp, by show xs.length + 1 ≤ 1000; omega, p, xs, rfl, mset_same, rfl, _, m, ?_, hq⟩
  rw [mset_mset]
  exact Gh.obj hp
def T_Claim_or (a : Ad) : PT1 := fun ds m P => ∃ d r e s, ds = [d, e] ∧ IsCl a d r ∧ IsCl a e s ∧ P (clauseD a [d, e]) m
theorem isi_cl {d : D} {r : Row} {Q : PD} (Y : Ty K a) (h : IsCl a d r) (hq : Q (.bl true) m) : rhoIsi K [d, .ref (a.g "Claim")] m Q := by
  obtain ⟨C, hC, rfl⟩ := h
  exact ⟨.ref C, true, ⟨rfl, (Y.cl C hC).1⟩, (Y.cl C hC).2.1, hq⟩
theorem isi_cl0 {d : D} {r : Row} {Q : PD} (Y : Ty K a) (h : IsCl a d r) (hq : Q (.bl false) m) : rhoIsi K [d, .ref (a.g "Clause")] m Q := by
  obtain ⟨C, hC, rfl⟩ := h
  exact ⟨.ref C, false, ⟨rfl, (Y.cl C hC).1⟩, (Y.cl C hC).2.2, hq⟩
theorem isi_cs {xs : List D} {Q : PD} (Y : Ty K a) (hq : Q (.bl true) m) : rhoIsi K [clauseD a xs, .ref (a.g "Clause")] m Q := ⟨.ref _, true, ⟨rfl, Y.cs.1⟩, Y.cs.2, hq⟩
theorem p_Claim_or (Y : Ty K a) (h : T_Claim_or a ds m P) : s_Claim_or K a (T_Clause_init a) (ends1 P) (startG N_Claim_or ds) m := by
  obtain ⟨d, r, e, s, rfl, hd, he, h⟩ := h
  unfold s_Claim_or sMake
  walk_at "hbs"
  refine isi_cl Y he ?_
  exact make_clause (by simp) (endN h)
def T_Clause_or (a : Ad) : PT1 := fun ds m P => ∃ xs e s, ds = [clauseD a xs, e] ∧ xs.length ≤ 800 ∧ IsCl a e s ∧ P (clauseD a (xs ++ [e])) m
theorem sFld_cs {xs : List D} {Γ : GEnv} {j : Nat} {Q : PD} (hj : Γ[j]? = some (some (clauseD a xs))) (hq : Q (.lst xs) m) : sFld (GClause a) "_claims" (sVar j) Γ m Q := by
  unfold sFld sVar
  rw [hj]
  exact ⟨a.g "Clause", _, _, ⟨rfl, rfl⟩, rfl, rfl, hq⟩
theorem p_Clause_or (Y : Ty K a) (h : T_Clause_or a ds m P) : s_Clause_or K a (T_Clause_init a) (ends1 P) (startG N_Clause_or ds) m := by
  obtain ⟨xs, e, s, rfl, hx, he, h⟩ := h
  unfold s_Clause_or sMakeS
  walk_at "hbs"
  refine sFld_cs rfl ?_
  refine isi_cl Y he ?_
  refine ⟨xs, rfl, ?_⟩
  exact make_clause (by simp; omega) (endN h)
def T_Clause_claims (a : Ad) : PT1 := fun ds m P => ∃ xs, ds = [clauseD a xs] ∧ P (.lst xs) m
theorem p_Clause_claims (h : T_Clause_claims a ds m P) : s_Clause_claims K a (ends1 P) (startG N_Clause_claims ds) m := by
  obtain ⟨xs, rfl, h⟩ := h
  unfold s_Clause_claims
  walk_at "hbs"
  exact sFld_cs rfl ⟨xs, rfl, endN h⟩
def T_Clause_len (a : Ad) : PT1 := fun ds m P => ∃ xs, ds = [clauseD a xs] ∧ P (.int xs.length) m
theorem p_Clause_len (h : T_Clause_len a ds m P) : s_Clause_len K a (ends1 P) (startG N_Clause_len ds) m := by
  obtain ⟨xs, rfl, h⟩ := h
  unfold s_Clause_len
  walk_at "hbs"
  exact sFld_cs rfl ⟨xs, rfl, endN h⟩
def factXs (a : Ad) (d : D) (xs : List D) : Prop := d = clauseD a xs ∨ (xs = [d] ∧ ∃ r, IsCl a d r)
def T_joined (a : Ad) : PT1 := fun ds m P => ∃ d xs, ds = [.tup [d]] ∧ factXs a d xs ∧ xs.length ≤ 800 ∧ P (.lst xs) m
theorem p_joined (Y : Ty K a) (h : T_joined a ds m P) : s_joined K a (T_Clause_claims a) (ends1 P) (startG N_joined ds) m := by
  obtain ⟨d, xs, rfl, hf, hx, h⟩ := h
  unfold s_joined sFor iTp
  walk_at "hbs"
  refine ⟨by decide, fun p hp => ⟨_, rfl, fun i Γ m' => m' = mset m p (.lst (if i = 0 then [] else xs)) ∧ ∃ x, Γ = [some (.tup [d]), some (.ref p), x], ⟨rfl, _, rfl⟩, fun _ _ _ _ _ => trivial, ?_, ?_⟩⟩
  · rintro i Γ m' hi ⟨rfl, x, rfl⟩
    have : i = 0 := by simp at hi; exact hi
    subst this
    have e0 : dget [d] 0 = d := rfl
    rw [e0]
    unfold sMeth
    walk_at "hbs"
    rcases hf with rfl | ⟨rfl, r, hr⟩
    · refine isi_cs Y ⟨⟨[], mset_same⟩, ?_⟩
      refine ⟨⟨_, ⟨rfl, rfl⟩, rfl⟩, xs, rfl, ?_⟩
      unfold rhoExt
      refine ⟨[], mset_same, by simp; omega, ?_, _, rfl⟩
      rw [mset_mset]; rfl
    · refine isi_cl0 Y hr ⟨⟨[], mset_same⟩, [], mset_same, by simp, ?_, _, rfl⟩
      rw [mset_mset]; rfl
  · rintro Γ m' ⟨rfl, x, rfl⟩
    unfold sFreeze
    walk_at "hbs"
    refine ⟨xs, mset_same, m, ?_, h⟩
    intro b o hb
    have : b ≠ p := by rintro rfl; rw [hp] at hb; cases hb
    rw [mdel_ne this, mset_ne this]; exact hb
end
set_option Elab.async false
set_option linter.all false
set_option maxRecDepth 100000
set_option maxHeartbeats 4000000
section
open PySem L2
variable {K : PySem.W.Frag} {a : Ad} {ds : List D} {m : Mem} {P : PD}
/-! claims compared, shown -/
def pS : Option Str → PyData
  | none => .none
  | some x => .str x
def pN : Option Nat → PyData
  | none => .none
  | some n => .int n
def Cl.py : Cl → List PyData
  | .knew p d v => [.str "knew", .str p, .int d, pS v]
  | .told t h f l => [.str "told", pS t, pS h, .int f, pN l]
  | .began p v => [.str "began", .str p, pS v]
  | .held k => [.str "held", .int k]
  | .turned p o n => [.str "turned", .str p, pS o, pS n]
theorem beqD {A : Type} [BEq A] [LawfulBEq A] [DecidableEq A] (x y : A) : (x == y) = decide (x = y) := by
  by_cases h : x = y <;> simp [h]
theorem toPy_oS (o : Option Str) : toPy (oS o) = some (pS o) := by cases o <;> rfl
theorem toPy_oN (o : Option Nat) : toPy (oN o) = some (pN o) := by cases o <;> rfl
theorem toPys_words (c : Cl) : toPys c.words = some c.py := by
  cases c <;> simp only [Cl.words, Cl.py, toPys, toPy, toPy_oS, toPy_oN]
theorem dN (x y : Nat) : decide ((x : Int) = (y : Int)) = decide (x = y) := by
  by_cases h : x = y
  · subst h; simp
  · rw [decide_eq_false h, decide_eq_false (by omega)]
theorem eqv_str (x y : Str) : PyData.eqv (.str x) (.str y) = decide (x = y) := by simp only [PyData.eqv]; exact beqD x y
theorem eqv_nat (x y : Nat) : PyData.eqv (.int x) (.int y) = decide (x = y) := by
  rw [← dN]; simp only [PyData.eqv]; exact beqD _ _
theorem eqv_pS (x y : Option Str) : PyData.eqv (pS x) (pS y) = decide (x = y) := by
  cases x with
  | none => cases y with
    | none => simp [pS, PyData.eqv]
    | some y => simp [pS, PyData.eqv]
  | some x => cases y with
    | none => simp [pS, PyData.eqv]
    | some y => simp only [pS, eqv_str, Option.some.injEq]
theorem eqv_pN (x y : Option Nat) : PyData.eqv (pN x) (pN y) = decide (x = y) := by
  cases x with
  | none => cases y with
    | none => simp [pN, PyData.eqv]
    | some y => simp [pN, PyData.eqv]
  | some x => cases y with
    | none => simp [pN, PyData.eqv]
    | some y => simp only [pN, eqv_nat, Option.some.injEq]
theorem ea_cons (x y : PyData) (xs ys : List PyData) : PyData.eqvAll (x :: xs) (y :: ys) = (PyData.eqv x y && PyData.eqvAll xs ys) := by simp only [PyData.eqvAll]
theorem ea_nil : PyData.eqvAll [] [] = true := by simp only [PyData.eqvAll]
theorem ea_ne {x y : Str} (h : x ≠ y) (xs ys : List PyData) : PyData.eqvAll (.str x :: xs) (.str y :: ys) = false := by
  rw [ea_cons, eqv_str, decide_eq_false h, Bool.false_and]
theorem ev_tup (xs ys : List PyData) : PyData.eqv (.tuple xs) (.tuple ys) = PyData.eqvAll xs ys := by simp only [PyData.eqv]
theorem eqv_words (c d : Cl) : PyData.eqv (.tuple c.py) (.tuple d.py) = decide (c = d) := by
  rw [ev_tup]
  cases c with
  | knew p x v =>
    cases d with
    | knew p' x' v' =>
      simp only [Cl.py, ea_cons, ea_nil, eqv_str, eqv_nat, eqv_pS, Cl.knew.injEq, Bool.decide_and, decide_true, Bool.true_and, Bool.and_true]
    | _ => exact (ea_ne (by decide +kernel) _ _).trans (decide_eq_false (fun h => by cases h)).symm
  | told t g f l =>
    cases d with
    | told t' g' f' l' =>
      simp only [Cl.py, ea_cons, ea_nil, eqv_str, eqv_nat, eqv_pS, eqv_pN, Cl.told.injEq, Bool.decide_and, decide_true, Bool.true_and, Bool.and_true]
    | _ => exact (ea_ne (by decide +kernel) _ _).trans (decide_eq_false (fun h => by cases h)).symm
  | began p v =>
    cases d with
    | began p' v' =>
      simp only [Cl.py, ea_cons, ea_nil, eqv_str, eqv_nat, eqv_pS, Cl.began.injEq, Bool.decide_and, decide_true, Bool.true_and, Bool.and_true]
    | _ => exact (ea_ne (by decide +kernel) _ _).trans (decide_eq_false (fun h => by cases h)).symm
  | held k =>
    cases d with
    | held k' =>
      simp only [Cl.py, ea_cons, ea_nil, eqv_str, eqv_nat, eqv_pS, Cl.held.injEq, decide_true, Bool.true_and, Bool.and_true]
    | _ => exact (ea_ne (by decide +kernel) _ _).trans (decide_eq_false (fun h => by cases h)).symm
  | turned p o n =>
    cases d with
    | turned p' o' n' =>
      simp only [Cl.py, ea_cons, ea_nil, eqv_str, eqv_nat, eqv_pS, Cl.turned.injEq, Bool.decide_and, decide_true, Bool.true_and, Bool.and_true]
    | _ => exact (ea_ne (by decide +kernel) _ _).trans (decide_eq_false (fun h => by cases h)).symm
theorem letters_small : ∀ c ∈ lettersS.cps.toList, c < 0x110000 := by decide +kernel
theorem digits_small : ∀ c ∈ digitsS.cps.toList, c < 0x110000 := by decide +kernel
theorem name_ok {z : Str} (h : NameOK z) : PyData.strOk z = true := by
  unfold PyData.strOk
  rw [Array.all_eq_true_iff_forall_mem]
  intro c hc
  rcases h.all c (by simpa using hc) with q | q
  · exact decide_eq_true (letters_small c q)
  · exact decide_eq_true (digits_small c q)
theorem pS_lay {o : Option Str} (h : OptOK NameOK o) : (pS o).canLay0 = true := by
  cases o with
  | none => simp only [pS, PyData.canLay0]
  | some x => simp only [pS, PyData.canLay0]; exact name_ok h
theorem pN_lay (o : Option Nat) : (pN o).canLay0 = true := by cases o <;> simp only [pN, PyData.canLay0]
theorem pS_depth (o : Option Str) : (pS o).depth = 0 := by cases o <;> simp only [pS, PyData.depth]
theorem pN_depth (o : Option Nat) : (pN o).depth = 0 := by cases o <;> simp only [pN, PyData.depth]
theorem words_lay {c : Cl} (h : c.ok) : PyData.canLayAll0 c.py = true := by
  have e : PyData.strOk ("knew" : Str) = true ∧ PyData.strOk ("told" : Str) = true ∧ PyData.strOk ("began" : Str) = true ∧ PyData.strOk ("held" : Str) = true ∧ PyData.strOk ("turned" : Str) = true := by decide +kernel
  obtain ⟨e1, e2, e3, e4, e5⟩ := e
  cases c with
  | knew p d v => simp only [Cl.py, PyData.canLayAll0, PyData.canLay0, e1, name_ok h.1, pS_lay h.2.2, Bool.and_true, Bool.true_and]
  | told t g f l => simp only [Cl.py, PyData.canLayAll0, PyData.canLay0, e2, pS_lay h.1, pS_lay h.2.1, pN_lay, Bool.and_true, Bool.true_and]
  | began p v => simp only [Cl.py, PyData.canLayAll0, PyData.canLay0, e3, name_ok h.1, pS_lay h.2, Bool.and_true, Bool.true_and]
  | held k => simp only [Cl.py, PyData.canLayAll0, PyData.canLay0, e4, Bool.and_true, Bool.true_and]
  | turned p o n => simp only [Cl.py, PyData.canLayAll0, PyData.canLay0, e5, name_ok h.1, pS_lay h.2.1, pS_lay h.2.2, Bool.and_true, Bool.true_and]
theorem words_depth (c : Cl) : PyData.depthAll c.py = 0 := by
  cases c <;> simp only [Cl.py, PyData.depthAll, PyData.depth, pS_depth, pN_depth, Nat.max_self]
theorem shaped_words {c : Cl} (h : c.ok) : SeqAt.shaped (.tuple c.py) = true := by
  unfold SeqAt.shaped
  rw [show (PyData.tuple c.py).canLay0 = true by simp only [PyData.canLay0]; exact words_lay h, Bool.true_and]
  refine decide_eq_true ?_
  simp only [PyData.depth]
  rw [words_depth]; decide
theorem eqD_words {c d : Cl} (hc : c.ok) (hd : d.ok) : eqD (.tup c.words) (.tup d.words) (decide (c = d)) :=
  ⟨.tuple c.py, .tuple d.py, by simp only [toPy, toPys_words], by simp only [toPy, toPys_words], shaped_words hc, shaped_words hd, eqv_words c d⟩
def T_Claim_eq (a : Ad) : PT1 := fun ds m P => ∃ d r e s, ds = [d, e] ∧ IsCl a d r ∧ IsCl a e s ∧ r.2.ok ∧ s.2.ok ∧ P (.bl (decide (r = s))) m
theorem p_Claim_eq (Y : Ty K a) (h : T_Claim_eq a ds m P) : s_Claim_eq K a (ends1 P) (startG N_Claim_eq ds) m := by
  obtain ⟨d, r, e, s, rfl, hd, he, h1, h2, h⟩ := h
  unfold s_Claim_eq
  walk_at "hbs"
  refine isi_cl Y he ?_
  refine sFld_cl hd rfl (sFld_cl he rfl ⟨_, eqD_words h1 h2, ?_⟩)
  obtain ⟨rb, rc⟩ := r
  obtain ⟨sb, sc⟩ := s
  have e0 : decide ((rb, rc) = (sb, sc)) = (decide (rb = sb) && decide (rc = sc)) := by
    by_cases q1 : rb = sb <;> by_cases q2 : rc = sc <;> simp [q1, q2]
  rw [e0] at h
  by_cases q : rc = sc
  · rw [decide_eq_true q, Bool.and_true] at h
    rw [decide_eq_true q]
    refine sFld_clp hd rfl (sFld_clp he rfl ?_)
    exact endN h
  · rw [decide_eq_false q, Bool.and_false] at h
    rw [decide_eq_false q]
    exact endN h
end
set_option Elab.async false
set_option linter.all false
set_option maxRecDepth 100000
set_option maxHeartbeats 4000000
section
open PySem L2 TL
variable {K : PySem.W.Frag} {a : Ad} {ds : List D} {m : Mem} {P : PD}
def Cl.kind : Cl → Str
  | .knew .. => "knew"
  | .told .. => "told"
  | .began .. => "began"
  | .held .. => "held"
  | .turned .. => "turned"
theorem words_0 (c : Cl) : c.words[0]? = some (.str c.kind) := by cases c <;> rfl
theorem strs_0 (c : Cl) : c.strs[0]? = some c.kind := by cases c <;> rfl
theorem len_eq (c : Cl) : c.strs.length = c.words.length := by cases c <;> rfl
theorem len_le (c : Cl) : c.words.length ≤ 5 := by cases c <;> (simp [Cl.words])
theorem word_at {c : Cl} (h : c.ok) {i : Nat} (hi : i < c.words.length) : ∃ d t, dget c.words i = d ∧ c.strs[i]? = some t ∧
    ((d = .non ∧ ((c.kind = "told" ∧ i = 4 ∧ t = "end") ∨ (¬(c.kind = "told" ∧ i = 4) ∧ t = "any"))) ∨ d = .str t ∨ ∃ n : Nat, d = .int n ∧ t = numS n ∧ n ≤ 30) := by
  have n1 : ("knew" : Str) ≠ "told" := by decide +kernel
  have n2 : ("began" : Str) ≠ "told" := by decide +kernel
  have n3 : ("turned" : Str) ≠ "told" := by decide +kernel
  cases c with
  | knew p d v =>
    match i, hi with
    | 0, _ => exact ⟨_, _, rfl, rfl, .inr (.inl rfl)⟩
    | 1, _ => exact ⟨_, _, rfl, rfl, .inr (.inl rfl)⟩
    | 2, _ => exact ⟨_, _, rfl, rfl, .inr (.inr ⟨d, rfl, rfl, h.2.1⟩)⟩
    | 3, _ =>
      cases v with
      | none => exact ⟨_, _, rfl, rfl, .inl ⟨rfl, .inr ⟨fun q => n1 q.1, rfl⟩⟩⟩
      | some x => exact ⟨_, _, rfl, rfl, .inr (.inl rfl)⟩
  | told t g f l =>
    match i, hi with
    | 0, _ => exact ⟨_, _, rfl, rfl, .inr (.inl rfl)⟩
    | 1, _ =>
      cases t with
      | none => exact ⟨_, _, rfl, rfl, .inl ⟨rfl, .inr ⟨fun q => (by cases q.2), rfl⟩⟩⟩
      | some x => exact ⟨_, _, rfl, rfl, .inr (.inl rfl)⟩
    | 2, _ =>
      cases g with
      | none => exact ⟨_, _, rfl, rfl, .inl ⟨rfl, .inr ⟨fun q => (by cases q.2), rfl⟩⟩⟩
      | some x => exact ⟨_, _, rfl, rfl, .inr (.inl rfl)⟩
    | 3, _ => exact ⟨_, _, rfl, rfl, .inr (.inr ⟨f, rfl, rfl, h.2.2.1⟩)⟩
    | 4, _ =>
      cases l with
      | none => exact ⟨_, _, rfl, rfl, .inl ⟨rfl, .inl ⟨rfl, rfl, rfl⟩⟩⟩
      | some n => exact ⟨_, _, rfl, rfl, .inr (.inr ⟨n, rfl, rfl, h.2.2.2⟩)⟩
  | began p v =>
    match i, hi with
    | 0, _ => exact ⟨_, _, rfl, rfl, .inr (.inl rfl)⟩
    | 1, _ => exact ⟨_, _, rfl, rfl, .inr (.inl rfl)⟩
    | 2, _ =>
      cases v with
      | none => exact ⟨_, _, rfl, rfl, .inl ⟨rfl, .inr ⟨fun q => n2 q.1, rfl⟩⟩⟩
      | some x => exact ⟨_, _, rfl, rfl, .inr (.inl rfl)⟩
  | held k =>
    match i, hi with
    | 0, _ => exact ⟨_, _, rfl, rfl, .inr (.inl rfl)⟩
    | 1, _ => exact ⟨_, _, rfl, rfl, .inr (.inr ⟨k, rfl, rfl, h⟩)⟩
  | turned p o n =>
    match i, hi with
    | 0, _ => exact ⟨_, _, rfl, rfl, .inr (.inl rfl)⟩
    | 1, _ => exact ⟨_, _, rfl, rfl, .inr (.inl rfl)⟩
    | 2, _ =>
      cases o with
      | none => exact ⟨_, _, rfl, rfl, .inl ⟨rfl, .inr ⟨fun q => n3 q.1, rfl⟩⟩⟩
      | some x => exact ⟨_, _, rfl, rfl, .inr (.inl rfl)⟩
    | 3, _ =>
      cases n with
      | none => exact ⟨_, _, rfl, rfl, .inl ⟨rfl, .inr ⟨fun q => n3 q.1, rfl⟩⟩⟩
      | some x => exact ⟨_, _, rfl, rfl, .inr (.inl rfl)⟩
theorem strs_all {Q : Str → Prop} (q0 : Q "knew" ∧ Q "told" ∧ Q "began" ∧ Q "held" ∧ Q "turned" ∧ Q "any" ∧ Q "end") (qn : ∀ z, NameOK z → Q z) (qk : ∀ n, n ≤ 30 → Q (numS n)) {c : Cl} (h : c.ok) : ∀ w ∈ c.strs, Q w := by
  obtain ⟨k1, k2, k3, k4, k5, qa, qe⟩ := q0
  have qS : ∀ o, OptOK NameOK o → Q (wS o) := fun o ho => by
    cases o with
    | none => exact qa
    | some x => exact qn x ho
  have qE : ∀ o, OptN (· ≤ 30) o → Q (wE o) := fun o ho => by
    cases o with
    | none => exact qe
    | some x => exact qk x ho
  intro w hw
  cases c with
  | knew p d v =>
    simp only [Cl.strs, List.mem_cons, List.not_mem_nil, or_false] at hw
    rcases hw with rfl | rfl | rfl | rfl
    · exact k1
    · exact qn _ h.1
    · exact qk _ h.2.1
    · exact qS _ h.2.2
  | told t g f l =>
    simp only [Cl.strs, List.mem_cons, List.not_mem_nil, or_false] at hw
    rcases hw with rfl | rfl | rfl | rfl | rfl
    · exact k2
    · exact qS _ h.1
    · exact qS _ h.2.1
    · exact qk _ h.2.2.1
    · exact qE _ h.2.2.2
  | began p v =>
    simp only [Cl.strs, List.mem_cons, List.not_mem_nil, or_false] at hw
    rcases hw with rfl | rfl | rfl
    · exact k3
    · exact qn _ h.1
    · exact qS _ h.2
  | held k =>
    simp only [Cl.strs, List.mem_cons, List.not_mem_nil, or_false] at hw
    rcases hw with rfl | rfl
    · exact k4
    · exact qk _ h
  | turned p o n =>
    simp only [Cl.strs, List.mem_cons, List.not_mem_nil, or_false] at hw
    rcases hw with rfl | rfl | rfl | rfl
    · exact k5
    · exact qn _ h.1
    · exact qS _ h.2.1
    · exact qS _ h.2.2
theorem num_len {n : Nat} (h : n ≤ 30) : (numS n).length ≤ 4 := (num_facts n h).1
theorem strs_len {c : Cl} (h : c.ok) : ∀ w ∈ c.strs, w.length ≤ 10 :=
  strs_all (Q := fun w => w.length ≤ 10) (by decide +kernel) (fun z hz => by have := hz.len; omega) (fun n hn => by have := num_len hn; omega) h
theorem row_all {Q : Str → Prop} (qn' : Q "not") (q0 : Q "knew" ∧ Q "told" ∧ Q "began" ∧ Q "held" ∧ Q "turned" ∧ Q "any" ∧ Q "end") (qn : ∀ z, NameOK z → Q z) (qk : ∀ n, n ≤ 30 → Q (numS n)) {r : Row} (h : r.2.ok) : ∀ w ∈ rowStrs r, Q w := by
  intro w hw
  unfold rowStrs at hw
  rcases List.mem_append.mp hw with hw | hw
  · obtain ⟨b, c⟩ := r
    cases b with
    | true => cases hw
    | false => rw [List.mem_singleton.mp hw]; exact qn'
  · exact strs_all q0 qn qk h w hw
theorem row_len {r : Row} (h : r.2.ok) : ∀ w ∈ rowStrs r, w.length ≤ 10 :=
  row_all (Q := fun w => w.length ≤ 10) (by decide +kernel) (by decide +kernel) (fun z hz => by have := hz.len; omega) (fun n hn => by have := num_len hn; omega) h
theorem row_count (r : Row) : (rowStrs r).length ≤ 6 := by
  unfold rowStrs
  rw [List.length_append, len_eq]
  have := len_le r.2
  have : (if r.1 = true then ([] : List Str) else ["not"]).length ≤ 1 := by split <;> simp
  omega
theorem sum_le {k : Nat} : ∀ {ws : List Str}, (∀ w ∈ ws, w.length ≤ k) → (ws.map (·.length)).sum ≤ ws.length * k
  | [], _ => by simp
  | w :: ws, h => by
    have := sum_le (k := k) fun x hx => h x (List.mem_cons_of_mem w hx)
    have := h w (by simp)
    simp only [List.map_cons, List.sum_cons, List.length_cons, Nat.succ_mul]
    omega
theorem join_le {k : Nat} {y : Str} {ws : List Str} (h : ∀ w ∈ ws, w.length ≤ k) : (Txt.join y ws).length ≤ ws.length * (k + y.length) := by
  have h1 : (Txt.join y ws).length ≤ (ws.map (·.length)).sum + ws.length * y.length := by
    rw [join_eq]
    exact StrLaws.join_length_le y ws
  have h2 := sum_le h
  rw [Nat.mul_add]
  omega
theorem rowText_len {r : Row} (h : r.2.ok) : (rowText r).length ≤ 100 := by
  have h1 := join_le (y := " ") (row_len h)
  have h2 := row_count r
  have h3 : (" " : Str).length = 1 := by decide +kernel
  have : (rowStrs r).length * (10 + (" " : Str).length) ≤ 6 * 11 := by rw [h3]; omega
  unfold rowText
  omega
def T_claim_text : PT1 := fun ds m P => ∃ r : Row, ds = [.tup r.2.words, .bl r.1] ∧ r.2.ok ∧ P (.str (rowText r)) m
theorem p_claim_text (h : T_claim_text ds m P) : s_claim_text K a (ends1 P) (startG N_claim_text ds) m := by
  obtain ⟨r, rfl, hr, h⟩ := h
  unfold s_claim_text sFor iEnumT
  obtain ⟨b, c⟩ := r
  have hl := len_le c
  have hle := len_eq c
  obtain ⟨pre, hpre⟩ : ∃ pre : List Str, pre = (if b = true then ([] : List Str) else ["not"]) := ⟨_, rfl⟩
  have hrt : rowText (b, c) = Txt.join " " (pre ++ c.strs) := by rw [hpre]; rfl
  have hsum : ((pre ++ c.strs).map (·.length)).sum + (pre ++ c.strs).length * (" " : Str).length ≤ 16777216 := by
    have h1 := sum_le (k := 10) (ws := pre ++ c.strs) (by rw [hpre]; exact row_len (r := (b, c)) hr)
    have h2 : (pre ++ c.strs).length ≤ 6 := by rw [hpre]; exact row_count (b, c)
    have h3 : (" " : Str).length = 1 := by decide +kernel
    rw [h3]
    omega
  rw [hrt] at h
  have step0 : c.strs.take 0 = [] := rfl
  cases b
  all_goals walk_at "hbs"
  all_goals refine ⟨by decide, fun p hp => ?_⟩
  · refine ⟨⟨_, mset_same⟩, _, mset_same, by simp, ?_⟩
    rw [mset_mset]
    refine ⟨_, rfl, fun i Γ m' => m' = mset m p (.lst ((pre ++ c.strs.take i).map .str)) ∧ ∃ x y z, Γ = [some (.tup c.words), z, some (.ref p), x, y], ⟨by rw [hpre]; rfl, _, _, _, rfl⟩, fun _ _ _ _ _ => trivial, ?_, ?_⟩
    case refine_1 =>
      rintro i Γ m' hi ⟨rfl, x, y, z, rfl⟩
      obtain ⟨d, t, e1, e2, e3⟩ := word_at hr hi
      rw [e1]
      have happ : ∀ d : D, MO.lst ((pre ++ c.strs.take i).map D.str ++ [D.str t]) = MO.lst ((pre ++ c.strs.take (i + 1)).map .str) := fun _ => by
        rw [List.take_succ, e2]
        simp
      have hsz : ((pre ++ c.strs.take i).map D.str).length < 1000000 := by
        have hp2 : pre.length ≤ 1 := by rw [hpre]; simp
        rw [List.length_map, List.length_append, List.length_take]
        omega
      try unfold gTuple
      walk_at "hbs"
      rcases e3 with ⟨rfl, q⟩ | rfl | ⟨n, rfl, rfl, hn⟩
      · walk_at "hbs"
        refine ⟨trivial, trivial, 0, c.words, .str c.kind, rfl, rfl, words_0 c, ?_⟩
        walk_at "hbs"
        rcases q with ⟨k1, k2, k3⟩ | ⟨k1, k2⟩
        · rw [decide_eq_true k1]
          walk_at "hbs"
          rw [decide_eq_true (by omega : (i : Int) = 4)]
          refine ⟨⟨_, mset_same⟩, _, mset_same, hsz, ?_, _, _, _, rfl⟩
          rw [mset_mset, ← k3]
          exact congrArg _ (happ .non)
        · by_cases k3 : c.kind = "told"
          · rw [decide_eq_true k3]
            walk_at "hbs"
            rw [decide_eq_false (fun k4 : (i : Int) = 4 => k1 ⟨k3, by omega⟩)]
            refine ⟨⟨_, mset_same⟩, _, mset_same, hsz, ?_, _, _, _, rfl⟩
            rw [mset_mset, ← k2]
            exact congrArg _ (happ .non)
          · rw [decide_eq_false k3]
            refine ⟨⟨_, mset_same⟩, _, mset_same, hsz, ?_, _, _, _, rfl⟩
            rw [mset_mset, ← k2]
            exact congrArg _ (happ .non)
      · walk_at "hbs"
        refine ⟨trivial, trivial, ⟨_, mset_same⟩, _, mset_same, hsz, ?_, _, _, _, rfl⟩
        rw [mset_mset]
        exact congrArg _ (happ .non)
      · walk_at "hbs"
        refine ⟨trivial, trivial, ⟨_, mset_same⟩, by omega, _, mset_same, hsz, ?_, _, _, _, rfl⟩
        rw [mset_mset]
        exact congrArg _ (happ .non)
    case refine_2 =>
      rintro Γ m' ⟨rfl, x, y, z, rfl⟩
      walk_at "hbs"
      refine ⟨trivial, pre ++ c.strs, ?_, hsum, m, Le.new Le.refl hp, h⟩
      rw [mset_same, ← hle, List.take_length]
  · refine ⟨_, rfl, fun i Γ m' => m' = mset m p (.lst ((pre ++ c.strs.take i).map .str)) ∧ ∃ x y z, Γ = [some (.tup c.words), z, some (.ref p), x, y], ⟨by rw [hpre]; rfl, _, _, _, rfl⟩, fun _ _ _ _ _ => trivial, ?_, ?_⟩
    case refine_1 =>
      rintro i Γ m' hi ⟨rfl, x, y, z, rfl⟩
      obtain ⟨d, t, e1, e2, e3⟩ := word_at hr hi
      rw [e1]
      have happ : ∀ d : D, MO.lst ((pre ++ c.strs.take i).map D.str ++ [D.str t]) = MO.lst ((pre ++ c.strs.take (i + 1)).map .str) := fun _ => by
        rw [List.take_succ, e2]
        simp
      have hsz : ((pre ++ c.strs.take i).map D.str).length < 1000000 := by
        have hp2 : pre.length ≤ 1 := by rw [hpre]; simp
        rw [List.length_map, List.length_append, List.length_take]
        omega
      try unfold gTuple
      walk_at "hbs"
      rcases e3 with ⟨rfl, q⟩ | rfl | ⟨n, rfl, rfl, hn⟩
      · walk_at "hbs"
        refine ⟨trivial, trivial, 0, c.words, .str c.kind, rfl, rfl, words_0 c, ?_⟩
        walk_at "hbs"
        rcases q with ⟨k1, k2, k3⟩ | ⟨k1, k2⟩
        · rw [decide_eq_true k1]
          walk_at "hbs"
          rw [decide_eq_true (by omega : (i : Int) = 4)]
          refine ⟨⟨_, mset_same⟩, _, mset_same, hsz, ?_, _, _, _, rfl⟩
          rw [mset_mset, ← k3]
          exact congrArg _ (happ .non)
        · by_cases k3 : c.kind = "told"
          · rw [decide_eq_true k3]
            walk_at "hbs"
            rw [decide_eq_false (fun k4 : (i : Int) = 4 => k1 ⟨k3, by omega⟩)]
            refine ⟨⟨_, mset_same⟩, _, mset_same, hsz, ?_, _, _, _, rfl⟩
            rw [mset_mset, ← k2]
            exact congrArg _ (happ .non)
          · rw [decide_eq_false k3]
            refine ⟨⟨_, mset_same⟩, _, mset_same, hsz, ?_, _, _, _, rfl⟩
            rw [mset_mset, ← k2]
            exact congrArg _ (happ .non)
      · walk_at "hbs"
        refine ⟨trivial, trivial, ⟨_, mset_same⟩, _, mset_same, hsz, ?_, _, _, _, rfl⟩
        rw [mset_mset]
        exact congrArg _ (happ .non)
      · walk_at "hbs"
        refine ⟨trivial, trivial, ⟨_, mset_same⟩, by omega, _, mset_same, hsz, ?_, _, _, _, rfl⟩
        rw [mset_mset]
        exact congrArg _ (happ .non)
    case refine_2 =>
      rintro Γ m' ⟨rfl, x, y, z, rfl⟩
      walk_at "hbs"
      refine ⟨trivial, pre ++ c.strs, ?_, hsum, m, Le.new Le.refl hp, h⟩
      rw [mset_same, ← hle, List.take_length]
def T_Claim_str (a : Ad) : PT1 := fun ds m P => ∃ d r, ds = [d] ∧ IsCl a d r ∧ r.2.ok ∧ P (.str (rowText r)) m
theorem p_Claim_str (h : T_Claim_str a ds m P) : s_Claim_str K a T_claim_text (ends1 P) (startG N_Claim_str ds) m := by
  obtain ⟨d, r, rfl, hd, hr, h⟩ := h
  unfold s_Claim_str
  walk_at "hbs"
  exact sFld_cl hd rfl (sFld_clp hd rfl ⟨r, rfl, hr, endN h⟩)
theorem asO_clm {d : D} {r : Row} (h : IsCl a d r) : ∃ C fs, asO m d C fs ∧ GClaim a C := by
  obtain ⟨C, hC, ho⟩ := asO_cl (m := m) h
  exact ⟨C, _, ho, hC⟩
theorem paired_at {A B : Type} {F : A → B → Prop} : ∀ {xs : List A} {ys : List B} {i : Nat} {y : B}, Paired F xs ys → ys[i]? = some y → ∃ x, xs[i]? = some x ∧ F x y
  | _, _, _, _, .nil, e => by simp at e
  | _, _, 0, _, .cons r _, e => by simp at e; subst e; exact ⟨_, rfl, r⟩
  | _, _, i + 1, _, .cons _ t, e => by
    obtain ⟨x, h1, h2⟩ := paired_at (i := i) t (by simpa using e)
    exact ⟨x, by simpa using h1, h2⟩
theorem paired_len {A B : Type} {F : A → B → Prop} : ∀ {xs : List A} {ys : List B}, Paired F xs ys → xs.length = ys.length
  | _, _, .nil => rfl
  | _, _, .cons _ t => by simp [paired_len t]
theorem map_range {A B : Type} (f : A → B) {ys : List A} {g : Nat → B} (h : ∀ i (hi : i < ys.length), g i = f ys[i]) : (List.range ys.length).map g = ys.map f := by
  apply List.ext_getElem
  · simp
  · intro i h1 h2
    simp at h1
    simp [h i h1]
theorem filter_all {n : Nat} : (List.range n).filter (fun _ => true) = List.range n := by simp
def T_Clause_str (a : Ad) : PT1 := fun ds m P => ∃ xs rs, ds = [clauseD a xs] ∧ IsCls a xs rs ∧ rs.length ≤ 100 ∧ (∀ r ∈ rs, r.2.ok) ∧ P (.str (Txt.join " or " (rs.map rowText))) m
theorem p_Clause_str (h : T_Clause_str a ds m P) : s_Clause_str K a (T_Claim_str a) (ends1 P) (startG N_Clause_str ds) m := by
  obtain ⟨xs, rs, rfl, hp, hl, hr, h⟩ := h
  have hx := paired_len hp
  unfold s_Clause_str sLc iLst
  walk_at "hbs"
  refine ⟨trivial, sFld_cs rfl ⟨xs, rfl, fun _ => true, fun i => .str ((rs.map rowText).getD i ""), by omega, fun i p out hi hp0 => ⟨rfl, rfl, rfl, fun _ => ?_⟩, fun _ _ _ => rfl, ?_⟩⟩
  · have hi' : i < rs.length := by omega
    obtain ⟨d, h1, h2⟩ := paired_at hp (List.getElem?_eq_getElem hi')
    have e : dget xs i = d := by unfold dget; rw [List.getD_eq_getElem?_getD, h1]; rfl
    rw [e]
    unfold rhoStrO
    walk_at "hbs"
    refine ⟨asO_clm h2, d, _, rfl, h2, hr _ (List.getElem_mem hi'), _, rfl, rfl, ?_⟩
    simp [List.getD, hi']
  · refine ⟨rs.map rowText, ?_, ?_, endN h⟩
    · rw [filter_all, hx, List.map_map]
      exact (map_range (fun r => D.str (rowText r)) fun i hi => by simp [List.getD, hi]).symm
    · have h1 := sum_le (k := 100) (ws := rs.map rowText) (by
        intro w hw
        obtain ⟨r, hr', rfl⟩ := List.mem_map.mp hw
        exact rowText_len (hr r hr'))
      have h3 : (" or " : Str).length = 4 := by decide +kernel
      rw [h3, List.length_map] at *
      omega
end
set_option Elab.async false
set_option linter.all false
set_option maxRecDepth 100000
set_option maxHeartbeats 4000000
section
open PySem L2 TL
variable {K : PySem.W.Frag} {a : Ad} {ds : List D} {m : Mem} {P : PD}
/-! texts read -/
inductive RW : Str → Str → D → Prop where
  | any : RW "any" "any" .non
  | end_ : RW "end" "end" .non
  | any1 {z : Str} (h : NameOK z) : RW "any" z (.str z)
  | name {z : Str} (h : NameOK z) : RW "name" z (.str z)
  | num {n : Nat} (h : n ≤ 30) : RW "number" (numS n) (.int n)
  | end1 {n : Nat} (h : n ≤ 30) : RW "end" (numS n) (.int n)
def T_read_word : PT1 := fun ds m P => ∃ f z t r, ds = [.str f, .str z, .str t] ∧ RW f z r ∧ P r m
theorem name_ne {z : Str} (h : NameOK z) : z ≠ "any" ∧ z ≠ "end" ∧ z ≠ "none" ∧ z ≠ "not" ∧ z ≠ "or" := by
  have := h.res
  simp only [List.mem_cons, List.not_mem_nil, or_false, not_or] at this
  exact this
theorem num_ne : ∀ n, n ≤ 30 → numS n ≠ "any" ∧ numS n ≠ "end" ∧ numS n ≠ "none" ∧ numS n ≠ "not" := by
  have : ∀ n ∈ List.range 31, numS n ≠ "any" ∧ numS n ≠ "end" ∧ numS n ≠ "none" ∧ numS n ≠ "not" := by decide +kernel
  exact fun n hn => this n (List.mem_range.mpr (by omega))
theorem p_read_word (h : T_read_word ds m P) : s_read_word K a T_is_name T_number_of (ends1 P) (startG N_read_word ds) m := by
  obtain ⟨f, z, t, r, rfl, hr, h⟩ := h
  unfold s_read_word
  have e1 : ("any" : Str) ≠ "end" := by decide +kernel
  have e2 : ("name" : Str) ≠ "any" := by decide +kernel
  have e3 : ("name" : Str) ≠ "end" := by decide +kernel
  have e4 : ("number" : Str) ≠ "any" := by decide +kernel
  have e5 : ("number" : Str) ≠ "end" := by decide +kernel
  have e6 : ("number" : Str) ≠ "name" := by decide +kernel
  have e7 : ("any" : Str) ≠ "name" := by decide +kernel
  have e8 : ("end" : Str) ≠ "any" := by decide +kernel
  have e9 : ("end" : Str) ≠ "name" := by decide +kernel
  cases hr with
  | any => walk_at "hbs"; exact endN h
  | end_ => walk_at "hbs"; rw [decide_eq_false e8]; exact endN h
  | any1 hz =>
    obtain ⟨n1, n2, _⟩ := name_ne hz
    walk_at "hbs"
    rw [decide_eq_false n1]
    walk_at "hbs"
    rw [decide_eq_false e1]
    refine ⟨by decide, ["name", "any"], rfl, ?_⟩
    rw [decide_eq_true (by simp)]
    exact ⟨_, rfl, hz, endN h⟩
  | name hz =>
    walk_at "hbs"
    rw [decide_eq_false e2, decide_eq_false e3]
    refine ⟨by decide, ["name", "any"], rfl, ?_⟩
    rw [decide_eq_true (by simp)]
    exact ⟨_, rfl, hz, endN h⟩
  | num hn =>
    walk_at "hbs"
    rw [decide_eq_false e4, decide_eq_false e5]
    refine ⟨by decide, ["name", "any"], rfl, ?_⟩
    rw [decide_eq_false (by simp [e6, e4])]
    exact ⟨_, rfl, .inl ⟨_, hn, rfl, endN h⟩⟩
  | end1 hn =>
    obtain ⟨n1, n2, _⟩ := num_ne _ hn
    walk_at "hbs"
    rw [decide_eq_false e8]
    walk_at "hbs"
    rw [decide_eq_false n2]
    refine ⟨by decide, ["name", "any"], rfl, ?_⟩
    rw [decide_eq_false (by simp [e8, e9])]
    exact ⟨_, rfl, .inl ⟨_, hn, rfl, endN h⟩⟩
/-- the words of a claim's form -/
def Cl.forms : Cl → List Str
  | .knew .. => ["name", "number", "any"]
  | .told .. => ["any", "any", "number", "end"]
  | .began .. => ["name", "any"]
  | .held .. => ["number"]
  | .turned .. => ["name", "any", "any"]
theorem forms_len (c : Cl) : c.forms.length + 1 = c.words.length := by cases c <;> rfl
theorem forms_at (c : Cl) : formsD.lookup c.kind = some (.tup (c.forms.map .str)) := by cases c <;> rfl
theorem rw_at {c : Cl} (h : c.ok) {i : Nat} (hi : i < c.forms.length) : ∃ f z r, c.forms[i]? = some f ∧ c.strs[i + 1]? = some z ∧ c.words[i + 1]? = some r ∧ RW f z r := by
  have qS : ∀ o, OptOK NameOK o → RW "any" (wS o) (oS o) := fun o ho => by
    cases o with
    | none => exact .any
    | some x => exact .any1 ho
  have qE : ∀ o, OptN (· ≤ 30) o → RW "end" (wE o) (oN o) := fun o ho => by
    cases o with
    | none => exact .end_
    | some x => exact .end1 ho
  cases c with
  | knew p d v =>
    match i, hi with
    | 0, _ => exact ⟨_, _, _, rfl, rfl, rfl, .name h.1⟩
    | 1, _ => exact ⟨_, _, _, rfl, rfl, rfl, .num h.2.1⟩
    | 2, _ => exact ⟨_, _, _, rfl, rfl, rfl, qS _ h.2.2⟩
  | told t g f l =>
    match i, hi with
    | 0, _ => exact ⟨_, _, _, rfl, rfl, rfl, qS _ h.1⟩
    | 1, _ => exact ⟨_, _, _, rfl, rfl, rfl, qS _ h.2.1⟩
    | 2, _ => exact ⟨_, _, _, rfl, rfl, rfl, .num h.2.2.1⟩
    | 3, _ => exact ⟨_, _, _, rfl, rfl, rfl, qE _ h.2.2.2⟩
  | began p v =>
    match i, hi with
    | 0, _ => exact ⟨_, _, _, rfl, rfl, rfl, .name h.1⟩
    | 1, _ => exact ⟨_, _, _, rfl, rfl, rfl, qS _ h.2⟩
  | held k =>
    match i, hi with
    | 0, _ => exact ⟨_, _, _, rfl, rfl, rfl, .num h⟩
  | turned p o n =>
    match i, hi with
    | 0, _ => exact ⟨_, _, _, rfl, rfl, rfl, .name h.1⟩
    | 1, _ => exact ⟨_, _, _, rfl, rfl, rfl, qS _ h.2.1⟩
    | 2, _ => exact ⟨_, _, _, rfl, rfl, rfl, qS _ h.2.2⟩
theorem row_nosp {r : Row} (h : r.2.ok) : ∀ w ∈ rowStrs r, (32 : Nat) ∉ tl w :=
  row_all (Q := fun w => (32 : Nat) ∉ tl w) (by decide +kernel) (by decide +kernel) (fun z hz => name_free hz (by decide +kernel) (by decide +kernel)) (fun n hn => num_free (by omega)) h
theorem row_ne (r : Row) : rowStrs r ≠ [] := by
  intro e
  have : (rowStrs r).length = 0 := by rw [e]; rfl
  unfold rowStrs at this
  rw [List.length_append, len_eq] at this
  have : 0 < r.2.words.length := by cases r.2 <;> simp [Cl.words]
  omega
theorem row_split {r : Row} (h : r.2.ok) : Txt.split (rowText r) " " = rowStrs r := split_sp (row_ne r) (row_nosp h)
theorem kind_not (c : Cl) : c.kind ≠ "not" := by
  have h : ("knew" : Str) ≠ "not" ∧ ("told" : Str) ≠ "not" ∧ ("began" : Str) ≠ "not" ∧ ("held" : Str) ≠ "not" ∧ ("turned" : Str) ≠ "not" := by decide +kernel
  cases c
  · exact h.1
  · exact h.2.1
  · exact h.2.2.1
  · exact h.2.2.2.1
  · exact h.2.2.2.2
def T_parse_claim (a : Ad) : PT1 := fun ds m P => ∃ r : Row, ds = [.str (rowText r)] ∧ r.2.ok ∧ P (clD (a.g "Claim") r) m
theorem p_parse_claim (h : T_parse_claim a ds m P) : s_parse_claim K a T_read_word (T_Claim_init a) (ends1 P) (startG N_parse_claim ds) m := by
  obtain ⟨r, rfl, hr, h⟩ := h
  have hsp := row_split hr
  have hlen := rowText_len hr
  obtain ⟨b, c⟩ := r
  unfold s_parse_claim
  have hb1 : (" " : Str).length ≠ 0 := by decide +kernel
  refine seq_step fun R1 h1 => ?_
  walk_at "hbq"
  refine ⟨trivial, hb1, by omega, ?_⟩
  rw [hsp]
  subst h1
  refine seq_step fun R2 h2 => ?_
  walk_at "hbq"
  have hk := kind_not c
  have h00 : (rowStrs (b, c))[0]? = some (if b then c.kind else "not") := by
    cases b
    · rfl
    · exact strs_0 c
  have hb0 : decide ((if b then c.kind else "not" : Str) = "not") = !b := by cases b <;> simp [hk]
  refine ⟨_, by rw [List.getElem?_map, h00]; rfl, ?_⟩
  walk_at "hbq"
  rw [hb0, Bool.not_not]
  subst h2
  refine seq_step fun R3 h3 => ?_
  refine if_step fun S U hS hU => ?_
  walk_at "hbq"
  clear h00 hb0
  have hpos : c.strs.length ≠ 0 := by cases c <;> simp [Cl.strs]
  have h01 : (c.strs.map D.str)[0]? = some (.str c.kind) := by rw [List.getElem?_map, strs_0]; rfl
  have hfl := forms_len c
  have hle := len_eq c
  have hl5 := len_le c
  have main : R3 [some (.str (rowText (b, c))), some (.lst (c.strs.map .str)), some (.bl b), none, none, none, none] m := by
    subst h3
    refine seq_step fun R4 h4 => ?_
    refine if_step fun S U hS hU => ?_
    walk_at "hbq"
    clear hS
    rw [List.length_map, decide_eq_false (by omega)]
    refine ⟨_, h01, rfl, _, _, rfl, forms_at c, ?_⟩
    rw [hU]
    walk_at "hbq"
    subst h4
    refine seq_step fun R5 h5 => ?_
    walk_at "hbq"
    refine ⟨_, h01, rfl, _, _, rfl, forms_at c, ?_⟩
    subst h5
    refine seq_step fun R6 h6 => ?_
    refine if_step fun S U hS hU => ?_
    walk_at "hbq"
    clear hS
    rw [decide_eq_true (by rw [List.length_map, List.length_map]; omega)]
    rw [hU]
    walk_at "hbq"
    subst h6
    refine seq_step fun R7 h7 => ?_
    walk_at "hbq"
    refine ⟨_, h01, by decide, fun p hp => ?_⟩
    subst h7
    refine seq_step fun R8 h8 => ?_
    unfold sFor iZipM
    walk_at "hbq"
    refine ⟨_, _, rfl, ?_, fun i Γ m' => m' = mset m p (.lst (c.words.take (i + 1))) ∧ ∃ x y, Γ = [some (.str (rowText (b, c))), some (.lst (c.strs.map .str)), some (.bl b), some (.tup (c.forms.map .str)), some (.ref p), x, y], ⟨?_, _, _, rfl⟩, fun _ _ _ _ _ => trivial, ?_, ?_⟩
    · rw [cut1]; simp; omega
    · have e := words_0 c
      have : c.words.take 1 = [.str c.kind] := by
        rw [List.take_succ, e]; rfl
      rw [this]
    · rintro i Γ m' hi ⟨rfl, x, y, rfl⟩
      rw [List.length_map] at hi
      obtain ⟨f, z, r, e1, e2, e3, e4⟩ := rw_at hr hi
      have d1 : dget (c.forms.map .str) i = .str f := by unfold dget; rw [List.getD_eq_getElem?_getD, List.getElem?_map, e1]; rfl
      have d2 : dget (cutD (c.strs.map .str) (some 1) none) i = .str z := by
        rw [cut1]
        unfold dget
        rw [List.getD_eq_getElem?_getD, List.getElem?_drop, Nat.add_comm, List.getElem?_map, e2]; rfl
      rw [d1, d2]
      walk_at "hbq"
      refine ⟨trivial, trivial, ⟨_, mset_same⟩, f, z, _, r, rfl, e4, _, mset_same, ?_, ?_, _, _, rfl⟩
      · rw [List.length_take]; omega
      · rw [mset_mset, List.take_succ (i := i + 1), e3]; rfl
    · rintro Γ m' ⟨rfl, x, y, rfl⟩
      subst h8
      unfold sMake
      walk_at "hbq"
      refine ⟨_, mset_same, ?_⟩
      rw [List.length_map, hfl, List.take_length]
      exact make_claim (.inl rfl) ⟨m, Le.new Le.refl hp, h⟩
  clear h3
  cases b
  · have hS' := hS
    rw [hS]
    walk_at "hbq"
    have e : cutD ((rowStrs (false, c)).map D.str) (some 1) none = c.strs.map .str := by rw [cut1]; rfl
    rw [e]
    exact main
  · rw [hU]
    walk_at "hbq"
    exact main
end
set_option Elab.async false
set_option linter.all false
set_option maxRecDepth 100000
set_option maxHeartbeats 4000000
section
open PySem L2 TL
variable {K : PySem.W.Frag} {a : Ad} {ds : List D} {m : Mem} {P : PD}
/-! lines read -/
theorem fact_split {rs : List Row} (h0 : rs ≠ []) (h : ∀ r ∈ rs, r.2.ok) : Txt.split (Txt.join " or " (rs.map rowText)) " or " = rs.map rowText := by
  have e : rs.map rowText = (rs.map rowStrs).map (Txt.join " ") := by rw [List.map_map]; rfl
  rw [e]
  refine split_or (by simpa using h0) ?_
  intro ws hws w hw
  obtain ⟨r, hr, rfl⟩ := List.mem_map.mp hws
  refine row_all (Q := fun w => (32 : Nat) ∉ tl w ∧ tl w ≠ [111, 114]) (by decide +kernel) (by decide +kernel) (fun z hz => ⟨name_free hz (by decide +kernel) (by decide +kernel), fun q => ?_⟩) (fun n hn => ⟨num_free (by omega), fun q => ?_⟩) (h r hr) w hw
  · have : z = "or" := ext_tl (q.trans (by decide +kernel))
    exact (name_ne hz).2.2.2.2 this
  · have : (111 : Nat) ∈ tl (numS n) := by rw [q]; simp
    exact num_free (by omega) this
theorem fact_len {rs : List Row} (h3 : rs.length ≤ 3) (h : ∀ r ∈ rs, r.2.ok) : (Txt.join " or " (rs.map rowText)).length ≤ 400 := by
  have h1 := join_le (k := 100) (y := " or ") (ws := rs.map rowText) (by
    intro w hw
    obtain ⟨r, hr', rfl⟩ := List.mem_map.mp hw
    exact rowText_len (h r hr'))
  have h2 : (" or " : Str).length = 4 := by decide +kernel
  rw [h2, List.length_map] at h1
  have : rs.length * (100 + 4) ≤ 3 * 104 := Nat.mul_le_mul_right _ h3
  omega
def T_parse_clause (a : Ad) : PT1 := fun ds m P => ∃ rs : List Row, ds = [.str (Txt.join " or " (rs.map rowText))] ∧ rs ≠ [] ∧ rs.length ≤ 3 ∧ (∀ r ∈ rs, r.2.ok) ∧ P (clauseD a (rs.map (clD (a.g "Claim")))) m
theorem p_parse_clause (h : T_parse_clause a ds m P) : s_parse_clause K a (T_parse_claim a) (T_Clause_init a) (ends1 P) (startG N_parse_clause ds) m := by
  obtain ⟨rs, rfl, h0, h3, hr, h⟩ := h
  have hlen := fact_len h3 hr
  have hs := fact_split h0 hr
  generalize hz : Txt.join " or " (rs.map rowText) = z at *
  unfold s_parse_clause sMakeS
  refine seq_step fun R hR => ?_
  unfold sLc iLst
  walk_at "hbq"
  refine ⟨trivial, by decide +kernel, by omega, ?_⟩
  rw [hs]
  refine ⟨fun _ => true, fun i => (rs.map (clD (a.g "Claim"))).getD i .non, by rw [List.length_map, List.length_map]; omega, fun i p out hi hp => ⟨trivial, rfl, rfl, fun _ => ?_⟩, fun _ _ _ => trivial, ?_⟩
  · rw [List.length_map, List.length_map] at hi
    refine ⟨rs[i], ?_, hr _ (List.getElem_mem hi), rfl, ?_⟩
    · unfold dget; simp [List.getD, hi]
    · simp [List.getD, hi]
  · subst hR
    walk_at "hbq"
    rw [filter_all, List.length_map, List.length_map, map_range (clD (a.g "Claim")) fun i hi => by simp [List.getD, hi], List.append_nil]
    exact make_clause (by rw [List.length_map]; omega) (endN h)
/-- a word: no space -/
def Wd (w : Str) : Prop := (32 : Nat) ∉ tl w ∧ w.length ≤ 10
theorem name_wd {z : Str} (h : NameOK z) : Wd z := ⟨name_free h (by decide +kernel) (by decide +kernel), by have := h.len; omega⟩
theorem num_wd {n : Nat} (h : n ≤ 30) : Wd (numS n) := ⟨num_free (by omega), by have := num_len h; omega⟩
theorem wd_split {ws : List Str} (h : ws ≠ []) (hw : ∀ w ∈ ws, Wd w) : Txt.split (Txt.join " " ws) " " = ws := split_sp h fun w q => (hw w q).1
theorem wd_len {ws : List Str} (hl : ws.length ≤ 10) (hw : ∀ w ∈ ws, Wd w) : (Txt.join " " ws).length ≤ 110 := by
  have h1 := join_le (k := 10) (y := " ") (ws := ws) fun w q => (hw w q).2
  have h2 : (" " : Str).length = 1 := by decide +kernel
  rw [h2] at h1
  have : ws.length * (10 + 1) ≤ 10 * 11 := Nat.mul_le_mul_right _ hl
  omega
def T_read_names : PT1 := fun ds m P => ∃ (w : Str) (xs : List Str), ds = [.str (Txt.join " " (w :: xs)), .str w] ∧ Wd w ∧ 1 ≤ xs.length ∧ xs.length ≤ 9 ∧ (∀ x ∈ xs, NameOK x) ∧ P (.lst (xs.map .str)) m
theorem p_read_names (h : T_read_names ds m P) : s_read_names K a T_is_name (ends1 P) (startG N_read_names ds) m := by
  obtain ⟨w, xs, rfl, hw, h1, h9, hx, h⟩ := h
  have hall : ∀ v ∈ w :: xs, Wd v := fun v hv => by
    rcases List.mem_cons.mp hv with rfl | hv
    · exact hw
    · exact name_wd (hx v hv)
  have hs := wd_split (by simp) hall
  have hl := wd_len (by simp; omega) hall
  generalize hz : Txt.join " " (w :: xs) = z at *
  unfold s_read_names
  refine seq_step fun R hR => ?_
  walk_at "hbq"
  refine ⟨trivial, by decide +kernel, by omega, ?_⟩
  rw [hs]
  subst hR
  refine seq_step fun R hR => ?_
  refine if_step fun S U hS hU => ?_
  clear hS
  walk_at "hbq"
  rw [decide_eq_false (by rw [List.length_map]; omega)]
  rw [hU]
  walk_at "hbq"
  subst hR
  refine seq_step fun R hR => ?_
  unfold sFor iLst
  walk_at "hbq"
  rw [cut1]
  refine ⟨fun i Γ m' => m' = m ∧ ∃ x, Γ = [some (.str z), some (.str w), some (.lst ((w :: xs).map .str)), x], ⟨rfl, _, rfl⟩, fun _ _ _ _ _ => trivial, ?_, ?_⟩
  · rintro i Γ m' hi ⟨rfl, x, rfl⟩
    have hi : i < xs.length := by simpa using hi
    have e : dget (((w :: xs).map D.str).drop 1) i = .str xs[i] := by unfold dget; simp [List.getD, hi]
    have e' : dget ((D.str w :: xs.map D.str).drop 1) i = .str xs[i] := e
    first | rw [e] | rw [e']
    walk_at "hbq"
    exact ⟨_, rfl, hx _ (List.getElem_mem hi), rfl, _, rfl⟩
  · rintro Γ m' ⟨rfl, x, rfl⟩
    subst hR
    walk_at "hbq"
    rw [cut1]
    exact endN h
theorem str_ne : ("fact" : Str) ≠ "limit" ∧ ("limit" : Str) ≠ "fact" ∧ ("turn" : Str) ≠ "fact" ∧ ("turn" : Str) ≠ "limit" ∧ ("meet" : Str) ≠ "fact" ∧ ("meet" : Str) ≠ "limit" ∧ ("maybe" : Str) ≠ "fact" ∧ ("maybe" : Str) ≠ "limit" ∧ ("meet" : Str) ≠ "turn" ∧ ("maybe" : Str) ≠ "turn" ∧ ("maybe" : Str) ≠ "meet" := by decide +kernel
def T_read_last : PT1 := fun ds m P => ∃ n : Nat, ds = [.str (Txt.join " " [("last" : Str), numS n])] ∧ n ≤ 30 ∧ P (.int n) m
theorem p_read_last (h : T_read_last ds m P) : s_read_last K a T_number_of (ends1 P) (startG N_read_last ds) m := by
  obtain ⟨n, rfl, hn, h⟩ := h
  have hall : ∀ v ∈ [("last" : Str), numS n], Wd v := fun v hv => by
    rcases List.mem_cons.mp hv with rfl | hv
    · exact ⟨by decide +kernel, by decide +kernel⟩
    · rw [List.mem_singleton.mp hv]; exact num_wd hn
  have hs := wd_split (by simp) hall
  have hl := wd_len (by simp) hall
  generalize hz : Txt.join " " [("last" : Str), numS n] = z at *
  unfold s_read_last
  refine seq_step fun R hR => ?_
  walk_at "hbq"
  refine ⟨trivial, by decide +kernel, by omega, ?_⟩
  rw [hs]
  subst hR
  refine seq_step fun R hR => ?_
  refine if_step fun S U hS hU => ?_
  clear hS
  walk_at "hbq"
  rw [decide_eq_true (by rfl)]
  walk_at "hbq"
  rw [hU]
  walk_at "hbq"
  subst hR
  walk_at "hbq"
  exact ⟨_, rfl, .inl ⟨n, hn, rfl, endN h⟩⟩
theorem kind_facts : ∀ i, i < 4 → kindS i ∈ kindsS ∧ (32 : Nat) ∉ tl (kindS i) ∧ (kindS i).length ≤ 10 := by
  have : ∀ i ∈ List.range 4, kindS i ∈ kindsS ∧ (32 : Nat) ∉ tl (kindS i) ∧ (kindS i).length ≤ 10 := by decide +kernel
  exact fun i hi => this i (List.mem_range.mpr hi)
def T_read_limit : PT1 := fun ds m P => ∃ (i : Nat) (c : Option Nat) (z : Str), ds = [.lst ([("limit" : Str), kindS i, limS c].map .str), .str z] ∧ i < 4 ∧ OptN (· ≤ 24) c ∧ P (.tup [.str "limit", .str (kindS i), oN c]) m
theorem p_read_limit (h : T_read_limit ds m P) : s_read_limit K a T_number_of (ends1 P) (startG N_read_limit ds) m := by
  obtain ⟨i, c, z, rfl, hi, hc, h⟩ := h
  obtain ⟨hk, _⟩ := kind_facts i hi
  unfold s_read_limit
  refine seq_step fun R hR => ?_
  refine if_step fun S U hS hU => ?_
  clear hS
  walk_at "hbq"
  rw [decide_eq_true (by rfl)]
  walk_at "hbq"
  refine ⟨kindsS, rfl, ?_⟩
  rw [decide_eq_true hk]
  walk_at "hbq"
  rw [hU]
  walk_at "hbq"
  subst hR
  cases c with
  | none =>
    walk_at "hbs"
    refine ⟨2, [.str "limit", .str (kindS i), .str "none"], .str "none", rfl, rfl, rfl, ?_⟩
    walk_at "hbs"
    refine ⟨1, [.str "limit", .str (kindS i), .str "none"], .str (kindS i), rfl, rfl, rfl, ?_⟩
    exact ⟨by decide, endN h⟩
  | some n =>
    have hn : n ≤ 30 := by have : n ≤ 24 := hc; omega
    obtain ⟨_, _, n3, _⟩ := num_ne n hn
    refine seq_step fun R hR => ?_
    refine if_step fun S U hS hU => ?_
    clear hS
    walk_at "hbq"
    have e : decide (limS (some n) = "none") = false := decide_eq_false n3
    rw [e]
    walk_at "hbq"
    rw [hU]
    walk_at "hbq"
    subst hR
    refine seq_step fun R hR => ?_
    walk_at "hbq"
    refine ⟨_, rfl, .inl ⟨n, hn, rfl, ?_⟩⟩
    subst hR
    walk_at "hbq"
    exact ⟨by decide, endN h⟩
def T_limit_line : PT1 := fun ds m P => ∃ (i : Nat) (c : Option Nat), ds = [.str (kindS i), oN c] ∧ i < 4 ∧ OptN (· ≤ 24) c ∧ P (.str (Deed.limit i c).line) m
theorem p_limit_line (h : T_limit_line ds m P) : s_limit_line K a (ends1 P) (startG N_limit_line ds) m := by
  obtain ⟨i, c, rfl, hi, hc, h⟩ := h
  obtain ⟨_, _, hk⟩ := kind_facts i hi
  have hjs : ∀ w x : Str, Txt.join " " ["limit", w, x] = (((((Str.empty ++ "limit ") ++ w) ++ " ") ++ x : Str)) := fun w x => by
    apply ext_tl
    rw [tl_joinW]
    simp only [tl_append, List.map_cons, List.map_nil, joinL]
    have e1 : tl ("limit " : Str) = tl ("limit" : Str) ++ [32] := by decide +kernel
    have e2 : tl (" " : Str) = [32] := by decide +kernel
    have e3 : tl Str.empty = [] := by decide +kernel
    rw [e1, e2, e3]
    simp
  have hjn : ∀ w : Str, Txt.join " " ["limit", w, "none"] = (((Str.empty ++ "limit ") ++ w) ++ " none" : Str) := fun w => by
    apply ext_tl
    rw [tl_joinW]
    simp only [tl_append, List.map_cons, List.map_nil, joinL]
    have e1 : tl ("limit " : Str) = tl ("limit" : Str) ++ [32] := by decide +kernel
    have e2 : tl (" none" : Str) = 32 :: tl ("none" : Str) := by decide +kernel
    have e3 : tl Str.empty = [] := by decide +kernel
    rw [e1, e2, e3]
    simp
  have l0 : (Str.empty : Str).length = 0 := by decide +kernel
  have l1 : ("limit " : Str).length = 6 := by decide +kernel
  have l2 : (" none" : Str).length = 5 := by decide +kernel
  have l3 : (" " : Str).length = 1 := by decide +kernel
  unfold s_limit_line
  refine seq_step fun R hR => ?_
  refine if_step fun S U hS hU => ?_
  cases c with
  | none =>
    walk_at "hbq"
    rw [hS]
    walk_at "hbq"
    have z1 : ((Str.empty ++ "limit ") ++ kindS i : Str).length ≤ 100 := by rw [Str.length_append, Str.length_append]; omega
    have z2 : (((Str.empty ++ "limit ") ++ kindS i) ++ " none" : Str).length ≤ 100 := by rw [Str.length_append, Str.length_append, Str.length_append]; omega
    refine ⟨by rw [Str.length_append]; omega, by omega, by omega, by omega, endN ?_⟩
    rw [← hjn]
    exact h
  | some n =>
    have hn : n ≤ 30 := by have : n ≤ 24 := hc; omega
    have hl := num_len hn
    walk_at "hbq"
    rw [hU]
    walk_at "hbq"
    subst hR
    walk_at "hbq"
    have z1 : ((Str.empty ++ "limit ") ++ kindS i : Str).length ≤ 100 := by rw [Str.length_append, Str.length_append]; omega
    have z2 : (((Str.empty ++ "limit ") ++ kindS i) ++ " " : Str).length ≤ 100 := by rw [Str.length_append, Str.length_append, Str.length_append]; omega
    have z3 : ((((Str.empty ++ "limit ") ++ kindS i) ++ " ") ++ numS n : Str).length ≤ 100 := by rw [Str.length_append, Str.length_append, Str.length_append, Str.length_append]; omega
    refine ⟨by rw [Str.length_append]; omega, by omega, by omega, by omega, by omega, Nat.le_trans z3 (by decide), endN ?_⟩
    have e := hjs (kindS i) (numS n)
    have e' : (Deed.limit i (some n)).line = ((((Str.empty ++ "limit ") ++ kindS i) ++ " ") ++ numS n : Str) := e
    rw [e'] at h
    exact h
end
set_option Elab.async false
set_option linter.all false
set_option maxRecDepth 100000
set_option maxHeartbeats 4000000
section
open PySem L2 TL
variable {K : PySem.W.Frag} {a : Ad} {ds : List D} {m : Mem} {P : PD}
/-- the words of a fact -/
def fws : List Row → List Str
  | [] => []
  | [r] => rowStrs r
  | r :: s :: t => rowStrs r ++ ("or" : Str) :: fws (s :: t)
theorem fws_ne : ∀ {rs : List Row}, rs ≠ [] → fws rs ≠ []
  | [], h => absurd rfl h
  | [r], _ => row_ne r
  | r :: s :: t, _ => by simp [fws]
theorem joinL_app (S : List Nat) : ∀ (xs ys : List (List Nat)), xs ≠ [] → ys ≠ [] → joinL S (xs ++ ys) = joinL S xs ++ (S ++ joinL S ys)
  | [], _, h, _ => absurd rfl h
  | [x], y :: ys, _, _ => rfl
  | x :: z :: xs, ys, _, h => by
    show x ++ (S ++ joinL S ((z :: xs) ++ ys)) = (x ++ (S ++ joinL S (z :: xs))) ++ (S ++ joinL S ys)
    rw [joinL_app S (z :: xs) ys (by simp) h]
    simp [List.append_assoc]
theorem fws_join : ∀ {rs : List Row}, rs ≠ [] → Txt.join " or " (rs.map rowText) = Txt.join " " (fws rs)
  | [], h => absurd rfl h
  | [r], _ => by
    apply ext_tl
    rw [tl_joinW, join_eq, tl_join]
    show tl (rowText r) = _
    unfold rowText
    rw [tl_joinW]; rfl
  | r :: s :: t, _ => by
    have ih := congrArg tl (fws_join (rs := s :: t) (by simp))
    apply ext_tl
    rw [tl_joinW, join_eq, tl_join] at ih ⊢
    have e : tl (" or " : Str) = [32, 111, 114, 32] := by decide +kernel
    have eo : tl ("or" : Str) = [111, 114] := by decide +kernel
    rw [e] at ih ⊢
    show tl (rowText r) ++ ([32, 111, 114, 32] ++ joinL [32, 111, 114, 32] ((((s :: t) : List Row).map rowText).map tl)) = joinL [32] ((rowStrs r ++ ("or" : Str) :: fws (s :: t)).map tl)
    rw [ih, List.map_append, joinL_app _ _ _ (by simpa using row_ne r) (by simp)]
    unfold rowText
    rw [tl_joinW, List.map_cons, eo]
    have : joinL [32] ([111, 114] :: (fws (s :: t)).map tl) = [111, 114] ++ ([32] ++ joinL [32] ((fws (s :: t)).map tl)) := by
      cases q : (fws (s :: t)).map tl with
      | nil => exact absurd (List.map_eq_nil_iff.mp q) (fws_ne (by simp))
      | cons x xs => rfl
    rw [this]
    rfl
theorem fws_wd : ∀ {rs : List Row}, (∀ r ∈ rs, r.2.ok) → ∀ w ∈ fws rs, Wd w
  | [], _, w, hw => by cases hw
  | [r], h, w, hw => ⟨row_nosp (h r (by simp)) w hw, row_len (h r (by simp)) w hw⟩
  | r :: s :: t, h, w, hw => by
    rcases List.mem_append.mp hw with hw | hw
    · exact ⟨row_nosp (h r (by simp)) w hw, row_len (h r (by simp)) w hw⟩
    · rcases List.mem_cons.mp hw with rfl | hw
      · exact ⟨by decide +kernel, by decide +kernel⟩
      · exact fws_wd (rs := s :: t) (fun x hx => h x (List.mem_cons_of_mem _ hx)) w hw
theorem fws_len : ∀ {rs : List Row}, (fws rs).length ≤ rs.length * 7
  | [] => by simp [fws]
  | [r] => by have := row_count r; simp [fws]; omega
  | r :: s :: t => by
    have := row_count r
    have ih := fws_len (rs := s :: t)
    simp [fws] at ih ⊢
    omega
def T_read_line (a : Ad) : PT1 := fun ds m P => ∃ d : Deed, ds = [.str d.line] ∧ d.ok ∧ P (d.d a) m
theorem fact_line {rs : List Row} (h : rs ≠ []) : (Deed.fact rs).line = Txt.join " " (("fact" : Str) :: fws rs) := by
  show Txt.join " " [("fact" : Str), Txt.join " or " (rs.map rowText)] = _
  rw [fws_join h]
  apply ext_tl
  rw [tl_joinW, tl_joinW]
  simp only [List.map_cons, List.map_nil]
  cases q : (fws rs).map tl with
  | nil => exact absurd (List.map_eq_nil_iff.mp q) (fws_ne h)
  | cons x xs =>
    show tl ("fact" : Str) ++ ([32] ++ tl (Txt.join " " (fws rs))) = tl ("fact" : Str) ++ ([32] ++ joinL [32] (x :: xs))
    rw [tl_joinW, q]
theorem p_read_line (h : T_read_line a ds m P) : s_read_line K a (T_parse_clause a) T_read_limit T_number_of T_is_name (ends1 P) (startG N_read_line ds) m := by
  obtain ⟨d, rfl, hd, h⟩ := h
  obtain ⟨n1, n2, n3, n4, n5, n6, n7, n8, n9, n10, n11⟩ := str_ne
  unfold s_read_line
  cases d with
  | fact rs =>
    obtain ⟨h0, h3, hr⟩ := hd
    have hT := fact_len h3 hr
    have hws := fws_wd hr
    have hfl := fws_len (rs := rs)
    have hfne := fws_ne h0
    have hfj := fws_join h0
    have hall : ∀ v ∈ ("fact" : Str) :: fws rs, Wd v := fun v hv => by
      rcases List.mem_cons.mp hv with rfl | hv
      · exact ⟨by decide +kernel, by decide +kernel⟩
      · exact hws v hv
    have hs := wd_split (by simp) hall
    have hll : (Txt.join " " (("fact" : Str) :: fws rs)).length ≤ 1000 := by
      have h1 := join_le (k := 10) (y := " ") (ws := ("fact" : Str) :: fws rs) fun w q => (hall w q).2
      have h2 : (" " : Str).length = 1 := by decide +kernel
      rw [h2] at h1
      have : (("fact" : Str) :: fws rs).length * (10 + 1) ≤ 22 * 11 := Nat.mul_le_mul_right _ (by rw [List.length_cons]; omega)
      omega
    rw [fact_line h0]
    generalize hz : Txt.join " " (("fact" : Str) :: fws rs) = z at *
    refine seq_step fun R hR => ?_
    walk_at "hbq"
    refine ⟨trivial, by decide +kernel, by omega, ?_⟩
    rw [hs]
    subst hR
    refine seq_step fun R hR => ?_
    refine if_step fun S U hS hU => ?_
    walk_at "hbq"
    have hpos : 0 < (fws rs).length := List.length_pos_iff.mpr hfne
    rw [decide_eq_true (by rw [List.length_map]; omega)]
    rw [hS]
    walk_at "hbq"
    rw [cut1]
    refine ⟨trivial, fws rs, rfl, ?_, rs, by rw [hfj], h0, h3, hr, by decide, endN h⟩
    have h1 := sum_le (k := 10) (ws := fws rs) fun w q => (hws w q).2
    have h2 : (" " : Str).length = 1 := by decide +kernel
    rw [h2]; omega
  | limit i c =>
    obtain ⟨hi, hc⟩ := hd
    obtain ⟨_, k1, k2⟩ := kind_facts i hi
    have hcw : Wd (limS c) := by
      cases c with
      | none => exact ⟨by decide +kernel, by decide +kernel⟩
      | some n => exact num_wd (by have : n ≤ 24 := hc; omega)
    have hall : ∀ v ∈ [("limit" : Str), kindS i, limS c], Wd v := fun v hv => by
      simp only [List.mem_cons, List.not_mem_nil, or_false] at hv
      rcases hv with rfl | rfl | rfl
      · exact ⟨by decide +kernel, by decide +kernel⟩
      · exact ⟨k1, k2⟩
      · exact hcw
    have hs := wd_split (by simp) hall
    have hl := wd_len (by simp) hall
    have hln : (Deed.limit i c).line = Txt.join " " [("limit" : Str), kindS i, limS c] := rfl
    rw [hln]
    generalize hz : Txt.join " " [("limit" : Str), kindS i, limS c] = z at *
    refine seq_step fun R hR => ?_
    walk_at "hbq"
    refine ⟨trivial, by decide +kernel, by omega, ?_⟩
    rw [hs]
    subst hR
    refine seq_step fun R hR => ?_
    refine if_step fun S U hS hU => ?_
    walk_at "hbq"
    rw [decide_eq_false n2]
    walk_at "hbq"
    rw [hU]
    walk_at "hbq"
    subst hR
    refine seq_step fun R hR => ?_
    refine if_step fun S U hS hU => ?_
    walk_at "hbq"
    rw [hS]
    walk_at "hbq"
    exact ⟨i, c, z, rfl, hi, hc, endN h⟩
  | turn x =>
    obtain ⟨hw1, hw2, hw3⟩ := hd
    have hall : ∀ v ∈ [("turn" : Str), x.who, x.old, x.new], Wd v := fun v hv => by
      simp only [List.mem_cons, List.not_mem_nil, or_false] at hv
      rcases hv with rfl | rfl | rfl | rfl
      · exact ⟨by decide +kernel, by decide +kernel⟩
      · exact name_wd hw1
      · exact name_wd hw2
      · exact name_wd hw3
    have hln : (Deed.turn x).line = Txt.join " " [("turn" : Str), x.who, x.old, x.new] := rfl
    have hs := wd_split (by simp) hall
    have hl := wd_len (by simp) hall
    rw [hln]
    generalize hz : Txt.join " " [("turn" : Str), x.who, x.old, x.new] = z at *
    refine seq_step fun R hR => ?_
    walk_at "hbq"
    refine ⟨trivial, by decide +kernel, by omega, ?_⟩
    rw [hs]
    subst hR
    refine seq_step fun R hR => ?_
    refine if_step fun S U hS hU => ?_
    walk_at "hbq"
    rw [decide_eq_false n3]
    walk_at "hbq"
    rw [hU]
    walk_at "hbq"
    subst hR
    refine seq_step fun R hR => ?_
    refine if_step fun S U hS hU => ?_
    walk_at "hbq"
    rw [decide_eq_false n4]
    walk_at "hbq"
    rw [hU]
    walk_at "hbq"
    subst hR
    refine seq_step fun R hR => ?_
    refine if_step fun S U hS hU => ?_
    walk_at "hbq"
    rw [decide_eq_true (by rfl)]
    walk_at "hbq"
    rw [hU]
    walk_at "hbq"
    subst hR
    refine seq_step fun R hR => ?_
    walk_at "hbq"
    refine ⟨_, rfl, .inr ⟨hw1, ?_⟩⟩
    subst hR
    refine seq_step fun R hR => ?_
    unfold sFor iLst
    walk_at "hbq"
    refine ⟨fun i Γ m' => m' = m ∧ ∃ y, Γ = [some (.str z), some (.lst ([("turn" : Str), x.who, x.old, x.new].map .str)), some (D.non), y], ⟨rfl, _, rfl⟩, fun _ _ _ _ _ => trivial, ?_, ?_⟩
    · rintro i Γ m' hi ⟨rfl, y, rfl⟩
      rw [cut2] at hi ⊢
      have e : dget (([("turn" : Str), x.who, x.old, x.new].map D.str).drop 2) i = .str (if i = 0 then x.old else x.new) := by
        match i, hi with
        | 0, _ => rfl
        | 1, _ => rfl
      have hn : NameOK (if i = 0 then x.old else x.new) := by split <;> assumption
      have e' := e
      simp only [List.map_cons, List.map_nil] at e'
      rw [e']
      walk_at "hbq"
      exact ⟨_, rfl, hn, rfl, _, rfl⟩
    · rintro Γ m' ⟨rfl, y, rfl⟩
      subst hR
      refine seq_step fun R hR => ?_
      refine if_step fun S U hS hU => ?_
      walk_at "hbq"
      refine ⟨_, rfl, hw1, ?_⟩
      rw [hS]
      walk_at "hbq"
      exact ⟨by decide, endN h⟩
  | meet x =>
    obtain ⟨hw1, hw2, hw3⟩ := hd
    obtain ⟨xd, x1, x2, xs⟩ := x
    have hwm : ∀ xs : Bool, Wd (if xs then "meet" else "maybe" : Str) := fun xs => by cases xs <;> exact ⟨by decide +kernel, by decide +kernel⟩
    have hall : ∀ v ∈ [(if xs then "meet" else "maybe" : Str), numS xd, x1, x2], Wd v := fun v hv => by
      simp only [List.mem_cons, List.not_mem_nil, or_false] at hv
      rcases hv with rfl | rfl | rfl | rfl
      · exact hwm xs
      · exact num_wd hw1
      · exact name_wd hw2
      · exact name_wd hw3
    have hln : (Deed.meet ⟨xd, x1, x2, xs⟩).line = Txt.join " " [(if xs then "meet" else "maybe" : Str), numS xd, x1, x2] := rfl
    have m1 : (if xs then "meet" else "maybe" : Str) ≠ "fact" := by cases xs; exact n7; exact n5
    have m2 : (if xs then "meet" else "maybe" : Str) ≠ "limit" := by cases xs; exact n8; exact n6
    have m3 : (if xs then "meet" else "maybe" : Str) ≠ "turn" := by cases xs; exact n10; exact n9
    have m4 : (if xs then "meet" else "maybe" : Str) ∈ [("meet" : Str), "maybe"] := by cases xs <;> simp
    have m5 : decide ((if xs then "meet" else "maybe" : Str) = "meet") = xs := by cases xs; exact decide_eq_false n11; exact decide_eq_true rfl
    have hw2 : NameOK x1 := hw2
    have hw3 : NameOK x2 := hw3
    have hw1 : xd ≤ 30 := hw1
    generalize (if xs then "meet" else "maybe" : Str) = w0 at *
    have hs := wd_split (by simp) hall
    have hl := wd_len (by simp) hall
    rw [hln]
    generalize hz : Txt.join " " [w0, numS xd, x1, x2] = z at *
    refine seq_step fun R hR => ?_
    walk_at "hbq"
    refine ⟨trivial, by decide +kernel, by omega, ?_⟩
    rw [hs]
    subst hR
    refine seq_step fun R hR => ?_
    refine if_step fun S U hS hU => ?_
    walk_at "hbq"
    rw [decide_eq_false m1]
    walk_at "hbq"
    rw [hU]
    walk_at "hbq"
    subst hR
    refine seq_step fun R hR => ?_
    refine if_step fun S U hS hU => ?_
    walk_at "hbq"
    rw [decide_eq_false m2]
    walk_at "hbq"
    rw [hU]
    walk_at "hbq"
    subst hR
    refine seq_step fun R hR => ?_
    refine if_step fun S U hS hU => ?_
    walk_at "hbq"
    rw [decide_eq_true (by rfl)]
    walk_at "hbq"
    rw [hU]
    walk_at "hbq"
    subst hR
    refine seq_step fun R hR => ?_
    walk_at "hbq"
    refine ⟨_, rfl, .inl ⟨xd, hw1, rfl, ?_⟩⟩
    subst hR
    refine seq_step fun R hR => ?_
    unfold sFor iLst
    walk_at "hbq"
    refine ⟨fun i Γ m' => m' = m ∧ ∃ y, Γ = [some (.str z), some (.lst ([w0, numS xd, x1, x2].map .str)), some (D.int xd), y], ⟨rfl, _, rfl⟩, fun _ _ _ _ _ => trivial, ?_, ?_⟩
    · rintro i Γ m' hi ⟨rfl, y, rfl⟩
      rw [cut2] at hi ⊢
      have e : dget (([w0, numS xd, x1, x2].map D.str).drop 2) i = .str (if i = 0 then x1 else x2) := by
        match i, hi with
        | 0, _ => rfl
        | 1, _ => rfl
      have hn : NameOK (if i = 0 then x1 else x2) := by split <;> assumption
      have e' := e
      simp only [List.map_cons, List.map_nil] at e'
      rw [e']
      walk_at "hbq"
      exact ⟨_, rfl, hn, rfl, _, rfl⟩
    · rintro Γ m' ⟨rfl, y, rfl⟩
      subst hR
      refine seq_step fun R hR => ?_
      refine if_step fun S U hS hU => ?_
      walk_at "hbq"
      rw [decide_eq_false m3]
      walk_at "hbq"
      rw [hU]
      walk_at "hbq"
      subst hR
      refine seq_step fun R hR => ?_
      refine if_step fun S U hS hU => ?_
      walk_at "hbq"
      refine ⟨by decide, [("meet" : Str), "maybe"], rfl, ?_⟩
      rw [decide_eq_true m4]
      walk_at "hbq"
      rw [hS]
      walk_at "hbq"
      rw [m5]
      exact ⟨by decide, endN h⟩
end
set_option Elab.async false
set_option linter.all false
set_option maxRecDepth 100000
set_option maxHeartbeats 4000000
section
open PySem L2 TL
variable {K : PySem.W.Frag} {a : Ad} {ds : List D} {m m' m'' : Mem} {P : PD} {k : BkA} {B : Bk}
/-! a book in the memory -/
theorem BkA.ne (h : k.all.Nodup) : (k.p ≠ k.m ∧ k.p ≠ k.t ∧ k.p ≠ k.f ∧ k.p ≠ k.q) ∧ (k.m ≠ k.t ∧ k.m ≠ k.f ∧ k.m ≠ k.q) ∧ (k.t ≠ k.f ∧ k.t ≠ k.q) ∧ k.f ≠ k.q := by
  unfold BkA.all at h
  simp only [List.nodup_cons, List.mem_cons, List.not_mem_nil, or_false, not_or, not_false_eq_true, List.nodup_nil, and_true] at h
  exact ⟨h.1, h.2.1, h.2.2.1, h.2.2.2⟩
theorem Fr.refl : Fr k m m := fun _ _ => rfl
theorem Fr.trans (h : Fr k m m') (h' : Fr k m' m'') : Fr k m m'' := fun x hx => (h' x hx).trans (h x hx)
theorem Fr.set {x : Addr} {o : MO} (hx : x ∈ k.all) : Fr k m (mset m x o) := fun y hy => mset_ne fun e => hy (by rw [e]; exact hx)
theorem BookAt.setQ (h : BookAt a m k B) {ps : List D} (hl : ps.length ≤ 1000) : BookAt a (mset m k.q (.lst ps)) k { B with np := ps.length } := by
  obtain ⟨⟨_, _, _, n4⟩, ⟨_, _, n7⟩, ⟨_, n9⟩, n10⟩ := BkA.ne h.nd
  obtain ⟨fs, hf, hp⟩ := h.fa
  obtain ⟨c1, c2, c3, c4, c5⟩ := h.few
  exact ⟨by rw [mset_ne n4]; exact h.at_, by rw [mset_ne n7]; exact h.mt, by rw [mset_ne n9]; exact h.tn, ⟨fs, by rw [mset_ne n10]; exact hf, hp⟩, ⟨ps, mset_same, rfl⟩, h.nd, c1, c2, c3, hl, c5⟩
theorem BookAt.setM (h : BookAt a m k B) {ms : List Mt} (hl : ms.length ≤ 100) : BookAt a (mset m k.m (.lst (ms.map Mt.d))) k { B with meetings := ms } := by
  obtain ⟨⟨n1, _, _, _⟩, ⟨n5, n6, n7⟩, ⟨_, _⟩, _⟩ := BkA.ne h.nd
  obtain ⟨fs, hf, hp⟩ := h.fa
  obtain ⟨ps, hq, hl'⟩ := h.pa
  obtain ⟨c1, c2, c3, c4, c5⟩ := h.few
  exact ⟨by rw [mset_ne n1]; exact h.at_, mset_same, by rw [mset_ne (Ne.symm n5)]; exact h.tn, ⟨fs, by rw [mset_ne (Ne.symm n6)]; exact hf, hp⟩, ⟨ps, by rw [mset_ne (Ne.symm n7)]; exact hq, hl'⟩, h.nd, hl, c2, c3, c4, c5⟩
theorem BookAt.setT (h : BookAt a m k B) {ts : List Tn} (hl : ts.length ≤ 100) : BookAt a (mset m k.t (.lst (ts.map Tn.d))) k { B with turns := ts } := by
  obtain ⟨⟨_, n2, _, _⟩, ⟨n5, n6, n7⟩, ⟨n8, n9⟩, _⟩ := BkA.ne h.nd
  obtain ⟨fs, hf, hp⟩ := h.fa
  obtain ⟨ps, hq, hl'⟩ := h.pa
  obtain ⟨c1, c2, c3, c4, c5⟩ := h.few
  exact ⟨by rw [mset_ne n2]; exact h.at_, by rw [mset_ne n5]; exact h.mt, mset_same, ⟨fs, by rw [mset_ne (Ne.symm n8)]; exact hf, hp⟩, ⟨ps, by rw [mset_ne (Ne.symm n9)]; exact hq, hl'⟩, h.nd, c1, hl, c3, c4, c5⟩
theorem BookAt.setF (h : BookAt a m k B) {fs : List D} {rs : List (List Row)} (hp : Paired (IsClause a) fs rs) (hl : rs.length ≤ 100) : BookAt a (mset m k.f (.lst fs)) k { B with facts := rs } := by
  obtain ⟨⟨_, _, n3, _⟩, ⟨_, n6, _⟩, ⟨n8, _⟩, n10⟩ := BkA.ne h.nd
  obtain ⟨ps, hq, hl'⟩ := h.pa
  obtain ⟨c1, c2, c3, c4, c5⟩ := h.few
  exact ⟨by rw [mset_ne n3]; exact h.at_, by rw [mset_ne n6]; exact h.mt, by rw [mset_ne n8]; exact h.tn, ⟨fs, mset_same, hp⟩, ⟨ps, by rw [mset_ne (Ne.symm n10)]; exact hq, hl'⟩, h.nd, c1, c2, hl, c4, c5⟩
theorem BookAt.setL (h : BookAt a m k B) {ls : List (Option Nat)} (hl : ls.length = 4) : BookAt a (mset m k.p (.ins (a.g "Book") (bookFs k { B with limits := ls }))) k { B with limits := ls } := by
  obtain ⟨⟨n1, n2, n3, n4⟩, _⟩ := BkA.ne h.nd
  obtain ⟨fs, hf, hp⟩ := h.fa
  obtain ⟨ps, hq, hl'⟩ := h.pa
  obtain ⟨c1, c2, c3, c4, c5⟩ := h.few
  exact ⟨mset_same, by rw [mset_ne (Ne.symm n1)]; exact h.mt, by rw [mset_ne (Ne.symm n2)]; exact h.tn, ⟨fs, by rw [mset_ne (Ne.symm n3)]; exact hf, hp⟩, ⟨ps, by rw [mset_ne (Ne.symm n4)]; exact hq, hl'⟩, h.nd, c1, c2, c3, c4, hl⟩
theorem inP : k.p ∈ k.all := by simp [BkA.all]
theorem inM : k.m ∈ k.all := by simp [BkA.all]
theorem inT : k.t ∈ k.all := by simp [BkA.all]
theorem inF : k.f ∈ k.all := by simp [BkA.all]
theorem inQ : k.q ∈ k.all := by simp [BkA.all]
/-- what is nowhere in the book stays beside -/
theorem BookAt.frame {k' : BkA} (h : BookAt a m k B) (f : Fr k' m m') (hd : ∀ x ∈ k.all, x ∉ k'.all) : BookAt a m' k B := by
  obtain ⟨fs, hf, hp⟩ := h.fa
  obtain ⟨ps, hq, hl'⟩ := h.pa
  exact ⟨by rw [f _ (hd _ inP)]; exact h.at_, by rw [f _ (hd _ inM)]; exact h.mt, by rw [f _ (hd _ inT)]; exact h.tn, ⟨fs, by rw [f _ (hd _ inF)]; exact hf, hp⟩, ⟨ps, by rw [f _ (hd _ inQ)]; exact hq, hl'⟩, h.nd, h.few⟩
theorem BookAt.eq (h : BookAt a m k B) (f : ∀ x ∈ k.all, m' x = m x) : BookAt a m' k B := by
  obtain ⟨fs, hf, hp⟩ := h.fa
  obtain ⟨ps, hq, hl'⟩ := h.pa
  exact ⟨by rw [f _ inP]; exact h.at_, by rw [f _ inM]; exact h.mt, by rw [f _ inT]; exact h.tn, ⟨fs, by rw [f _ inF]; exact hf, hp⟩, ⟨ps, by rw [f _ inQ]; exact hq, hl'⟩, h.nd, h.few⟩
theorem sFld_bk {f : Str} {v : D} {Γ : GEnv} {j : Nat} {Q : PD} (hb : BookAt a m k B) (hj : Γ[j]? = some (some (.ref k.p))) (hf : (bookFs k B).lookup f = some v) (hq : Q v m) : sFld (GBook a) f (sVar j) Γ m Q := by
  unfold sFld sVar
  rw [hj]
  exact ⟨a.g "Book", _, _, hb.at_, rfl, hf, hq⟩
/-! its readers -/
def getT (a : Ad) (v : Bk → D) : PT1 := fun ds m P => ∃ k B, ds = [.ref k.p] ∧ BookAt a m k B ∧ P (v B) m
abbrev T_Book_people (a : Ad) : PT1 := getT a fun B => .lst (B.people.map .str)
abbrev T_Book_versions (a : Ad) : PT1 := getT a fun B => .lst (B.versions.map .str)
abbrev T_Book_meetings (a : Ad) : PT1 := getT a fun B => .lst (B.meetings.map Mt.d)
abbrev T_Book_turns (a : Ad) : PT1 := getT a fun B => .lst (B.turns.map Tn.d)
abbrev T_Book_limits (a : Ad) : PT1 := getT a fun B => .tup (B.limits.map oN)
abbrev T_Book_len (a : Ad) : PT1 := getT a fun B => .int B.facts.length
def T_Book_facts (a : Ad) : PT1 := fun ds m P => ∃ k B, ds = [.ref k.p] ∧ BookAt a m k B ∧ ∀ fs, m k.f = some (.lst fs) → Paired (IsClause a) fs B.facts → P (.lst fs) m
def T_Book_begin_limit (a : Ad) : PT1 := fun ds m P => ∃ k B c, ds = [.ref k.p] ∧ BookAt a m k B ∧ B.limits[0]? = some c ∧ P (oN c) m
theorem p_Book_people (h : T_Book_people a ds m P) : s_Book_people K a (ends1 P) (startG N_Book_people ds) m := by
  obtain ⟨k, B, rfl, hb, h⟩ := h
  unfold s_Book_people
  walk_at "hbq"
  refine sFld_bk hb rfl rfl ?_
  walk_at "hbq"
  exact endN h
theorem p_Book_versions (h : T_Book_versions a ds m P) : s_Book_versions K a (ends1 P) (startG N_Book_versions ds) m := by
  obtain ⟨k, B, rfl, hb, h⟩ := h
  unfold s_Book_versions
  walk_at "hbq"
  refine sFld_bk hb rfl rfl ?_
  walk_at "hbq"
  exact endN h
theorem p_Book_meetings (h : T_Book_meetings a ds m P) : s_Book_meetings K a (ends1 P) (startG N_Book_meetings ds) m := by
  obtain ⟨k, B, rfl, hb, h⟩ := h
  unfold s_Book_meetings
  walk_at "hbq"
  refine sFld_bk hb rfl rfl ?_
  walk_at "hbq"
  exact ⟨_, hb.mt, endN h⟩
theorem p_Book_turns (h : T_Book_turns a ds m P) : s_Book_turns K a (ends1 P) (startG N_Book_turns ds) m := by
  obtain ⟨k, B, rfl, hb, h⟩ := h
  unfold s_Book_turns
  walk_at "hbq"
  refine sFld_bk hb rfl rfl ?_
  walk_at "hbq"
  exact ⟨_, hb.tn, endN h⟩
theorem p_Book_facts (h : T_Book_facts a ds m P) : s_Book_facts K a (ends1 P) (startG N_Book_facts ds) m := by
  obtain ⟨k, B, rfl, hb, h⟩ := h
  obtain ⟨fs, hf, hp⟩ := hb.fa
  unfold s_Book_facts
  walk_at "hbq"
  refine sFld_bk hb rfl rfl ?_
  walk_at "hbq"
  exact ⟨_, hf, endN (h fs hf hp)⟩
theorem p_Book_limits (h : T_Book_limits a ds m P) : s_Book_limits K a (ends1 P) (startG N_Book_limits ds) m := by
  obtain ⟨k, B, rfl, hb, h⟩ := h
  unfold s_Book_limits
  walk_at "hbq"
  exact sFld_bk hb rfl rfl (endN h)
theorem p_Book_len (h : T_Book_len a ds m P) : s_Book_len K a (ends1 P) (startG N_Book_len ds) m := by
  obtain ⟨k, B, rfl, hb, h⟩ := h
  obtain ⟨fs, hf, hp⟩ := hb.fa
  unfold s_Book_len
  walk_at "hbq"
  refine sFld_bk hb rfl rfl ?_
  walk_at "hbq"
  refine ⟨_, hf, ?_⟩
  rw [paired_len hp]
  exact endN h
theorem p_Book_begin_limit (h : T_Book_begin_limit a ds m P) : s_Book_begin_limit K a (ends1 P) (startG N_Book_begin_limit ds) m := by
  obtain ⟨k, B, c, rfl, hb, hc, h⟩ := h
  unfold s_Book_begin_limit
  walk_at "hbq"
  refine sFld_bk hb rfl rfl ?_
  walk_at "hbq"
  exact ⟨_, by rw [List.getElem?_map, hc]; rfl, endN h⟩
/-- a method that leaves the book as v says -/
def setT (a : Ad) (p : Addr) (B' : Bk) (r : D) (k : BkA) (m : Mem) (P : PD) : Prop := k.p = p ∧ ∀ m', BookAt a m' k B' → Fr k m m' → P r m'
def T_Book__keep (a : Ad) : PT1 := fun ds m P => ∃ k B, ds = [.ref k.p] ∧ BookAt a m k B ∧ B.np < 1000 ∧ ∀ m', BookAt a m' k { B with np := B.np + 1 } → Fr k m m' → P .non m'
theorem p_Book__keep (h : T_Book__keep a ds m P) : s_Book__keep K a (ends1 P) (startG N_Book__keep ds) m := by
  obtain ⟨k, B, rfl, hb, hn, h⟩ := h
  obtain ⟨fs, hf, hp⟩ := hb.fa
  obtain ⟨ps, hq, hl⟩ := hb.pa
  unfold s_Book__keep
  refine seq_step fun R hR => ?_
  walk_at "hbq"
  refine sFld_bk hb rfl rfl ?_
  walk_at "hbq"
  refine ⟨_, hb.mt, ?_⟩
  refine sFld_bk hb rfl rfl ?_
  walk_at "hbq"
  refine ⟨_, hb.tn, ?_⟩
  refine sFld_bk hb rfl rfl ?_
  walk_at "hbq"
  refine ⟨_, hf, ?_⟩
  refine sFld_bk hb rfl rfl ?_
  refine ⟨by decide, ?_⟩
  subst hR
  walk_at "hbq"
  refine sFld_bk hb rfl rfl ?_
  walk_at "hbq"
  refine ⟨⟨_, hq⟩, _, hq, by omega, endN ?_⟩
  have := hb.setQ (ps := ps ++ [.tup [.lst (B.meetings.map Mt.d), .lst (B.turns.map Tn.d), .lst fs, .tup (B.limits.map oN)]]) (by rw [List.length_append, hl]; simp; omega)
  rw [List.length_append, hl] at this
  exact h _ this (Fr.set inQ)
end
set_option Elab.async false
set_option linter.all false
set_option maxRecDepth 100000
set_option maxHeartbeats 4000000
section
open PySem L2 TL
variable {K : PySem.W.Frag} {a : Ad} {ds : List D} {m m' m'' : Mem} {P : PD} {k : BkA} {B : Bk}
theorem meth_bk {x : Str} {T : PT1} {sa : SA} {Γ : GEnv} {j : Nat} {Q : PD} (hb : BookAt a m k B) (hj : Γ[j]? = some (some (.ref k.p))) (hx : (bookFs k B).lookup x = none) (h : sa Γ m fun ds m2 => T (.ref k.p :: ds) m2 Q) : sMeth (a.g "Book") x T (sVar j) sa Γ m Q := by
  unfold sMeth sVar
  rw [hj]
  exact ⟨⟨_, hb.at_, hx⟩, h⟩
/-! its writers -/
theorem tn_py (x : Tn) : toPy x.d = some (.tuple [.str x.who, .str x.old, .str x.new]) := by simp only [Tn.d, toPy, toPys]
theorem tns_py (ts : List Tn) : toPys (ts.map Tn.d) = some (ts.map fun x => .tuple [.str x.who, .str x.old, .str x.new]) := by
  induction ts with
  | nil => simp only [List.map_nil, toPys]
  | cons x ts ih => simp only [List.map_cons, toPys, tn_py, ih]
theorem tn_eqv (x y : Tn) : PyData.eqv (.tuple [.str x.who, .str x.old, .str x.new]) (.tuple [.str y.who, .str y.old, .str y.new]) = decide (x = y) := by
  obtain ⟨x1, x2, x3⟩ := x
  obtain ⟨y1, y2, y3⟩ := y
  simp only [ev_tup, ea_cons, ea_nil, eqv_str, Tn.mk.injEq, Bool.decide_and, Bool.and_true]
def Tn.names (x : Tn) : Prop := NameOK x.who ∧ NameOK x.old ∧ NameOK x.new
theorem tn_lay {x : Tn} (h : x.names) : (PyData.tuple [.str x.who, .str x.old, .str x.new]).canLay0 = true := by
  simp only [PyData.canLay0, PyData.canLayAll0, name_ok h.1, name_ok h.2.1, name_ok h.2.2, Bool.and_true]
theorem tn_shaped {x : Tn} (h : x.names) : SeqAt.shaped (.tuple [.str x.who, .str x.old, .str x.new]) = true := by
  unfold SeqAt.shaped
  rw [tn_lay h, Bool.true_and]
  refine decide_eq_true ?_
  simp only [PyData.depth, PyData.depthAll]; decide
theorem tns_shaped {ts : List Tn} (h : ∀ x ∈ ts, x.names) : SeqAt.shaped (.list (ts.map fun x => .tuple [.str x.who, .str x.old, .str x.new])) = true := by
  have h1 : PyData.canLayAll0 (ts.map fun x => .tuple [.str x.who, .str x.old, .str x.new]) = true := by
    induction ts with
    | nil => simp only [List.map_nil, PyData.canLayAll0]
    | cons x ts ih =>
      simp only [List.map_cons, PyData.canLayAll0]
      rw [tn_lay (h x (by simp)), ih fun y hy => h y (List.mem_cons_of_mem _ hy)]; rfl
  have h2 : PyData.depthAll (ts.map fun x => .tuple [.str x.who, .str x.old, .str x.new]) ≤ 1 := by
    clear h h1
    induction ts with
    | nil => simp only [List.map_nil, PyData.depthAll]; omega
    | cons x ts ih =>
      simp only [List.map_cons, PyData.depthAll, PyData.depth]
      omega
  unfold SeqAt.shaped
  rw [show (PyData.list (ts.map fun x => .tuple [.str x.who, .str x.old, .str x.new])).canLay0 = true by simp only [PyData.canLay0]; exact h1, Bool.true_and]
  refine decide_eq_true ?_
  simp only [PyData.depth]
  omega
theorem tn_any (x : Tn) (ts : List Tn) : ((ts.map fun x => PyData.tuple [.str x.who, .str x.old, .str x.new]).any fun z => PyData.eqv z (.tuple [.str x.who, .str x.old, .str x.new])) = decide (x ∈ ts) := by
  induction ts with
  | nil => simp
  | cons y ts ih =>
    rw [List.map_cons, List.any_cons, ih, tn_eqv]
    by_cases e : y = x
    · subst e; simp
    · have : x ≠ y := Ne.symm e
      by_cases e2 : x ∈ ts <;> simp [e, e2, this]
theorem q_in_tn {neg : Bool} {x : Tn} {c : Addr} {ts : List Tn} {Q : PD} (hc : m c = some (.lst (ts.map Tn.d))) (hx : x.names) (ht : ∀ y ∈ ts, y.names) (h : Q (.bl (xor neg (decide (x ∈ ts)))) m) : rhoIn neg x.d (.ref c) m Q := by
  refine ⟨_, _, _, hc, tn_py x, tns_py ts, tn_shaped hx, tns_shaped ht, ?_⟩
  rw [tn_any]
  exact h
def T_Book_may_turn (a : Ad) : PT1 := fun ds m P => ∃ k B x, ds = [.ref k.p, .str x.who, .str x.old, .str x.new] ∧ BookAt a m k B ∧ B.takes (.turn x) ∧ x.names ∧ (∀ y ∈ B.turns, y.names) ∧ B.np < 1000 ∧ ∀ m' r, BookAt a m' k (B.app (.turn x)) → Fr k m m' → P r m'
theorem p_Book_may_turn (h : T_Book_may_turn a ds m P) : s_Book_may_turn K a T_check_known (T_Book__keep a) (ends1 P) (startG N_Book_may_turn ds) m := by
  obtain ⟨k, B, x, rfl, hb, ⟨t1, t2, t3, t4, t5, t6⟩, hx, hy, hn, h⟩ := h
  unfold s_Book_may_turn
  refine seq_step fun R hR => ?_
  walk_at "hbr"
  refine sFld_bk hb rfl rfl ⟨some x.who, B.people, rfl, t1, ?_⟩
  subst hR
  refine seq_step fun R hR => ?_
  walk_at "hbr"
  refine sFld_bk hb rfl rfl ⟨some x.old, B.versions, rfl, t2, ?_⟩
  subst hR
  refine seq_step fun R hR => ?_
  walk_at "hbr"
  refine sFld_bk hb rfl rfl ⟨some x.new, B.versions, rfl, t3, ?_⟩
  subst hR
  refine seq_step fun R hR => ?_
  refine if_step fun S U hS hU => ?_
  walk_at "hbr"
  rw [decide_eq_false t4]
  walk_at "hbr"
  rw [hU]
  walk_at "hbr"
  subst hR
  refine seq_step fun R hR => ?_
  refine if_step fun S U hS hU => ?_
  walk_at "hbr"
  refine ⟨by decide, sFld_bk hb rfl rfl ?_⟩
  refine q_in_tn (x := x) hb.tn hx hy ?_
  rw [decide_eq_false t5]
  walk_at "hbr"
  rw [hU]
  walk_at "hbr"
  subst hR
  refine seq_step fun R hR => ?_
  refine if_step fun S U hS hU => ?_
  walk_at "hbr"
  refine sFld_bk hb rfl rfl ?_
  walk_at "hbr"
  refine ⟨_, hb.tn, ?_⟩
  rw [List.length_map, decide_eq_false (by omega)]
  walk_at "hbr"
  rw [hU]
  walk_at "hbr"
  subst hR
  refine seq_step fun R hR => ?_
  walk_at "hbr"
  refine meth_bk hb rfl rfl ⟨k, B, rfl, hb, hn, fun m1 hb1 f1 => ?_⟩
  subst hR
  refine seq_step fun R hR => ?_
  walk_at "hbr"
  refine sFld_bk hb1 rfl rfl ?_
  walk_at "hbr"
  have hl := hb.few.2.1
  refine ⟨⟨_, hb1.tn⟩, by decide, _, hb1.tn, by rw [List.length_map]; show B.turns.length < _; omega, ?_⟩
  subst hR
  have hb2 := hb1.setT (ts := B.turns ++ [x]) (by rw [List.length_append]; simp; omega)
  rw [List.map_append] at hb2
  walk_at "hbr"
  refine sFld_bk (B := { B with np := B.np + 1, turns := B.turns ++ [x] }) hb2 rfl rfl ?_
  walk_at "hbr"
  exact ⟨_, mset_same, endN (h _ _ hb2 (f1.trans (Fr.set inT)))⟩
end
set_option Elab.async false
set_option linter.all false
set_option maxRecDepth 100000
set_option maxHeartbeats 4000000
section
open PySem L2 TL
variable {K : PySem.W.Frag} {a : Ad} {ds : List D} {m m' m'' : Mem} {P : PD} {k : BkA} {B : Bk}
def T_Book_change (a : Ad) : PT1 := fun ds m P => ∃ k B i c, ds = [.ref k.p, .str (kindS i), oN c] ∧ BookAt a m k B ∧ B.takes (.limit i c) ∧ B.np < 1000 ∧ ∀ m', BookAt a m' k (B.app (.limit i c)) → Fr k m m' → P .non m'
theorem kinds_ix : ∀ i, i < 4 → ∃ j, kindsS[j]? = some (kindS i) ∧ (∀ k, k < j → kindsS[k]? ≠ some (kindS i)) ∧ j = i := by
  have h : ∀ i ∈ List.range 4, kindsS[i]? = some (kindS i) ∧ ∀ k ∈ List.range i, kindsS[k]? ≠ some (kindS i) := by decide +kernel
  intro i hi
  obtain ⟨h1, h2⟩ := h i (List.mem_range.mpr hi)
  exact ⟨i, h1, fun k hk => h2 k (List.mem_range.mpr hk), rfl⟩
theorem p_Book_change (h : T_Book_change a ds m P) : s_Book_change K a (T_Book__keep a) (ends1 P) (startG N_Book_change ds) m := by
  obtain ⟨k, B, i, c, rfl, hb, ⟨hi, hc⟩, hn, h⟩ := h
  obtain ⟨hk, _⟩ := kind_facts i hi
  obtain ⟨j, hj1, hj2, rfl⟩ := kinds_ix i hi
  obtain ⟨d, hd⟩ : ∃ d, d = oN c := ⟨_, rfl⟩
  rw [← hd]
  unfold s_Book_change
  refine seq_step fun R hR => ?_
  refine if_step fun S U hS hU => ?_
  walk_at "hbr"
  refine ⟨kindsS, rfl, ?_⟩
  rw [decide_eq_true hk]
  walk_at "hbr"
  rw [hU]
  walk_at "hbr"
  subst hR
  refine seq_step fun R hR => ?_
  have next : R [some (.ref k.p), some (.str (kindS j)), some d, none] m → (sIf (sAnd (sTest (sBin (rhoIsN true) (sVar 2) (sC .non))) (sNot (sTest (sChain rhoLe rhoLe (sC (.int 0)) (sVar 2) (sC (.int 24)))))) (sNever) (sNext)) { ends1 P with nx := R } [some (.ref k.p), some (.str (kindS j)), some d, none] m := by
    intro hz
    cases c with
    | none =>
      have hd' : d = .non := hd
      subst hd'
      walk_at "hbr"; exact hz
    | some n =>
      have hn : n ≤ 24 := hc
      have hd' : d = .int n := hd
      subst hd'
      walk_at "hbr"
      rw [decide_eq_true (by omega)]
      walk_at "hbr"
      rw [decide_eq_true (by omega)]
      walk_at "hbr"
      exact hz
  refine next ?_
  clear next
  subst hR
  refine seq_step fun R hR => ?_
  walk_at "hbr"
  refine meth_bk hb rfl rfl ⟨k, B, rfl, hb, hn, fun m1 hb1 f1 => ?_⟩
  subst hR
  refine seq_step fun R hR => ?_
  walk_at "hbr"
  refine sFld_bk hb1 rfl rfl ?_
  walk_at "hbr"
  intro p hp
  subst hR
  refine seq_step fun R hR => ?_
  unfold sSubSet sBM rhoTix
  walk_at "hbr"
  have hlen := hb.few.2.2.2.2
  refine ⟨j, hj1, hj2, p, _, j, rfl, rfl, mset_same, by rw [List.length_map]; show j < B.limits.length; omega, ?_⟩
  subst hR
  have hnp : ∀ x ∈ k.all, x ≠ p := fun x hx e => by
    subst e
    have hne : m1 x ≠ none := by
      obtain ⟨fs, hf, _⟩ := hb1.fa
      obtain ⟨ps, hq, _⟩ := hb1.pa
      simp only [BkA.all, List.mem_cons, List.not_mem_nil, or_false] at hx
      rcases hx with rfl | rfl | rfl | rfl | rfl
      · rw [hb1.at_]; simp
      · rw [hb1.mt]; simp
      · rw [hb1.tn]; simp
      · rw [hf]; simp
      · rw [hq]; simp
    exact hne hp
  have hb2 := hb1.eq (m' := mset m1 p (.lst ((B.limits.map oN).set j d))) fun x hx => mset_ne (hnp x hx)
  rw [mset_mset]
  unfold sFldSet
  have e : (B.limits.map oN).set j d = (B.limits.set j c).map oN := by rw [hd, List.map_set]
  have ep : putD "_limits" (.tup ((B.limits.map oN).set j d)) (bookFs k { B with np := B.np + 1 }) = bookFs k { B with np := B.np + 1, limits := B.limits.set j c } := by
    rw [e]; rfl
  walk_at "hbr"
  refine ⟨_, mset_same, k.p, _, _, rfl, hb2.at_, rfl, by show 8 < 900; decide, ?_⟩
  have hb3 := hb1.setL (ls := B.limits.set j c) (by rw [List.length_set]; exact hlen)
  refine ⟨_, ?_, h _ hb3 (f1.trans (Fr.set inP))⟩
  have ep' : putD "_limits" (.tup (({ B with np := B.np + 1 }.limits.map oN).set j d)) (bookFs k { B with np := B.np + 1 }) = bookFs k { B with np := B.np + 1, limits := B.limits.set j c } := ep
  rw [ep']
  exact Le.mset (Le.new Le.refl hp)
/-! meet -/
def T_Book_meet (a : Ad) : PT1 := fun ds m P => ∃ k B x, ds = [.ref k.p, .int (x.day : Nat), .str x.one, .str x.two, .bl x.sure] ∧ BookAt a m k B ∧ B.takes (.meet x) ∧ B.np < 1000 ∧ ∀ m' r, BookAt a m' k (B.app (.meet x)) → Fr k m m' → P r m'
def unsures (ms : List Mt) : Nat := (ms.filter (!·.sure)).length
theorem p_Book_meet (h : T_Book_meet a ds m P) : s_Book_meet K a T_check_known (T_Book__keep a) (ends1 P) (startG N_Book_meet ds) m := by
  obtain ⟨k, B, x, rfl, hb, ⟨t1, t2, t3, t4, t5, t6, t7, t8⟩, hn, h⟩ := h
  unfold s_Book_meet
  refine seq_step fun R hR => ?_
  walk_at "hbr"
  refine sFld_bk hb rfl rfl ⟨some x.one, B.people, rfl, t1, ?_⟩
  subst hR
  refine seq_step fun R hR => ?_
  walk_at "hbr"
  refine sFld_bk hb rfl rfl ⟨some x.two, B.people, rfl, t2, ?_⟩
  subst hR
  refine seq_step fun R hR => ?_
  refine if_step fun S U hS hU => ?_
  walk_at "hbr"
  rw [decide_eq_false t3]
  walk_at "hbr"
  rw [hU]
  walk_at "hbr"
  subst hR
  refine seq_step fun R hR => ?_
  refine if_step fun S U hS hU => ?_
  walk_at "hbr"
  rw [decide_eq_true (by omega)]
  walk_at "hbr"
  refine sFld_bk hb rfl rfl ?_
  walk_at "hbr"
  rw [decide_eq_true (by omega)]
  walk_at "hbr"
  rw [hU]
  walk_at "hbr"
  subst hR
  refine seq_step fun R hR => ?_
  walk_at "hbr"
  subst hR
  refine seq_step fun R hR => ?_
  refine for_step fun G hG => ?_
  unfold iLst
  walk_at "hbr"
  refine sFld_bk hb rfl rfl ?_
  refine ⟨_, hb.mt, fun i Γ m' => m' = m ∧ ∃ z, Γ = [some (.ref k.p), some (.int (x.day : Nat)), some (.str x.one), some (.str x.two), some (.bl x.sure), some (.int (unsures (B.meetings.take i) : Nat)), z], ⟨rfl, _, rfl⟩, ?_, ?_, ?_⟩
  · rintro i Γ m' _ ⟨rfl, _⟩; exact hb.mt
  · rintro i Γ m' hi ⟨rfl, z, rfl⟩
    rw [List.length_map] at hi
    rw [dgetM hi]
    generalize hy : B.meetings[i] = y
    have hu : unsures (B.meetings.take (i + 1)) = unsures (B.meetings.take i) + (if y.sure then 0 else 1) := by
      unfold unsures
      rw [take_succ' hi, List.filter_append, List.length_append, hy]
      cases hsu : y.sure <;> simp [hsu]
    have hs : ¬ y.same x := t6 y (by rw [← hy]; exact List.getElem_mem hi)
    have cutE : cutD [.int (y.day : Nat), .str y.one, .str y.two, .bl y.sure] (some 1) (some 3) = [D.str y.one, .str y.two] := rfl
    have hin : ∀ w : Str, decide (w ∈ [y.one, y.two]) = (decide (w = y.one) || decide (w = y.two)) := fun w => by
      by_cases e1 : w = y.one <;> by_cases e2 : w = y.two <;> simp [e1, e2]
    rw [hG]
    clear hG
    simp only [gN]
    refine seq_step fun R hR => ?_
    refine if_step fun S U hS hU => ?_
    have go : U [some (.ref k.p), some (.int (x.day : Nat)), some (.str x.one), some (.str x.two), some (.bl x.sure), some (.int (unsures (B.meetings.take i) : Nat)), some y.d] m' := by
      clear hS
      rw [hU]
      clear hU
      subst hR
      unfold Mt.d
      walk_at "hbr"
      cases hsu : y.sure
      · walk_at "hbr"
        rw [hu, hsu]
        exact ⟨_, rfl, _, rfl⟩
      · walk_at "hbr"
        rw [hu, hsu]
        exact ⟨_, rfl⟩
    have hS' : ∀ Γ m, S Γ m = False := fun Γ m => by rw [hS]; rfl
    clear hS hU hR
    unfold Mt.d at go ⊢
    walk_at "hbr"
    rw [dN]
    by_cases e1 : y.day = x.day
    · rw [decide_eq_true e1]
      walk_at "hbr"
      rw [cutE]
      refine ⟨by decide, [y.one, y.two], rfl, ?_⟩
      by_cases e2 : x.one ∈ [y.one, y.two]
      · rw [decide_eq_true e2]
        walk_at "hbr"
        refine ⟨by decide, [y.one, y.two], rfl, ?_⟩
        have e3 : x.two ∉ [y.one, y.two] := fun e3 => by
          simp only [List.mem_cons, List.not_mem_nil, or_false] at e2 e3
          exact hs ⟨e1, e2, e3⟩
        rw [decide_eq_false e3]
        exact go
      · rw [decide_eq_false e2]
        exact go
    · rw [decide_eq_false e1]
      walk_at "hbr"
      exact go
  · rintro Γ m' ⟨rfl, z, rfl⟩
    rw [List.length_map, List.take_length]
    subst hR
    refine seq_step fun R hR => ?_
    refine if_step fun S U hS hU => ?_
    clear hS
    walk_at "hbr"
    refine sFld_bk hb rfl rfl ?_
    walk_at "hbr"
    refine ⟨_, hb.mt, ?_⟩
    rw [List.length_map, decide_eq_false (by omega)]
    walk_at "hbr"
    rw [hU]
    clear hU
    walk_at "hbr"
    subst hR
    refine seq_step fun R hR => ?_
    refine if_step fun S U hS hU => ?_
    clear hS
    have go : U [some (.ref k.p), some (.int (x.day : Nat)), some (.str x.one), some (.str x.two), some (.bl x.sure), some (.int (unsures B.meetings : Nat)), z] m' := by
      rw [hU]
      clear hU
      walk_at "hbr"
      subst hR
      refine seq_step fun R hR => ?_
      walk_at "hbr"
      refine meth_bk hb rfl rfl ⟨k, B, rfl, hb, hn, fun m1 hb1 f1 => ?_⟩
      subst hR
      refine seq_step fun R hR => ?_
      walk_at "hbr"
      refine sFld_bk hb1 rfl rfl ?_
      walk_at "hbr"
      have hl := hb.few.1
      refine ⟨⟨_, hb1.mt⟩, by decide, _, hb1.mt, by rw [List.length_map]; show B.meetings.length < _; omega, ?_⟩
      subst hR
      have hb2 := hb1.setM (ms := B.meetings ++ [x]) (by rw [List.length_append]; simp; omega)
      rw [List.map_append] at hb2
      walk_at "hbr"
      refine sFld_bk (B := { B with np := B.np + 1, meetings := B.meetings ++ [x] }) hb2 rfl rfl ?_
      walk_at "hbr"
      exact ⟨_, mset_same, endN (h _ _ hb2 (f1.trans (Fr.set inM)))⟩
    clear hU hR
    walk_at "hbr"
    cases hsu : x.sure with
    | true => rw [hsu] at go; walk_at "hbr"; exact go
    | false =>
      have := t8 hsu
      rw [hsu] at go
      walk_at "hbr"
      rw [decide_eq_false (by unfold unsures; omega)]
      exact go
end
set_option Elab.async false
set_option linter.all false
set_option maxRecDepth 100000
set_option maxHeartbeats 4000000
section
open PySem L2 TL
variable {K : PySem.W.Frag} {a : Ad} {ds : List D} {m m' m'' : Mem} {P : PD} {k : BkA} {B : Bk}
/-! claims checked -/
def T_check_told (a : Ad) : PT1 := fun ds m P => ∃ k B t h f l, ds = [.ref k.p, .tup (Cl.told t h f l).words] ∧ BookAt a m k B ∧ Suits B (.told t h f l) ∧ P .non m
theorem q_people {j : Nat} {Γ : GEnv} {Q : PD} (hb : BookAt a m k B) (hj : Γ[j]? = some (some (.ref k.p))) (h : Q (.lst (B.people.map .str)) m) : sMeth (a.g "Book") "people" (T_Book_people a) (sVar j) aNil Γ m Q :=
  meth_bk hb hj rfl ⟨k, B, rfl, hb, h⟩
theorem q_versions {j : Nat} {Γ : GEnv} {Q : PD} (hb : BookAt a m k B) (hj : Γ[j]? = some (some (.ref k.p))) (h : Q (.lst (B.versions.map .str)) m) : sMeth (a.g "Book") "versions" (T_Book_versions a) (sVar j) aNil Γ m Q :=
  meth_bk hb hj rfl ⟨k, B, rfl, hb, h⟩
theorem q_meetings {j : Nat} {Γ : GEnv} {Q : PD} (hb : BookAt a m k B) (hj : Γ[j]? = some (some (.ref k.p))) (h : Q (.lst (B.meetings.map Mt.d)) m) : sMeth (a.g "Book") "meetings" (T_Book_meetings a) (sVar j) aNil Γ m Q :=
  meth_bk hb hj rfl ⟨k, B, rfl, hb, h⟩
theorem p_check_told (h : T_check_told a ds m P) : s_check_told K a (T_Book_people a) T_check_known (ends1 P) (startG N_check_told ds) m := by
  obtain ⟨k, B, t, g, f, l, rfl, hb, ⟨h1, h2, h3, h4, h5⟩, h⟩ := h
  unfold s_check_told
  simp only [Cl.words]
  obtain ⟨dt, ht⟩ : ∃ d, d = oS t := ⟨_, rfl⟩
  obtain ⟨dg, hg⟩ : ∃ d, d = oS g := ⟨_, rfl⟩
  obtain ⟨dl, hl⟩ : ∃ d, d = oN l := ⟨_, rfl⟩
  rw [← ht, ← hg, ← hl]
  refine seq_step fun R hR => ?_
  walk_at "hbr"
  refine q_people hb rfl ?_
  subst hR
  refine seq_step fun R hR => ?_
  walk_at "hbr"
  refine ⟨t, B.people, by rw [ht], h1, ?_⟩
  subst hR
  refine seq_step fun R hR => ?_
  walk_at "hbr"
  refine ⟨g, B.people, by rw [hg], h2, ?_⟩
  subst hR
  refine seq_step fun R hR => ?_
  refine if_step fun S U hS hU => ?_
  clear hS
  walk_at "hbr"
  rw [decide_eq_true (by omega)]
  walk_at "hbr"
  refine sFld_bk hb rfl rfl ?_
  walk_at "hbr"
  rw [decide_eq_true (by omega)]
  walk_at "hbr"
  rw [hU]
  walk_at "hbr"
  subst hR
  cases l with
  | none =>
    have hl : dl = .non := hl
    subst hl
    walk_at "hbr"
    exact endN h
  | some n =>
    have hl : dl = .int n := hl
    subst hl
    obtain ⟨h6, h7⟩ : f ≤ n ∧ n ≤ B.last := h5
    walk_at "hbr"
    rw [decide_eq_true (by omega)]
    walk_at "hbr"
    refine sFld_bk hb rfl rfl ?_
    walk_at "hbr"
    rw [decide_eq_true (by omega)]
    walk_at "hbr"
    exact endN h
def T_check_claim (a : Ad) : PT1 := fun ds m P => ∃ k B d r, ds = [.ref k.p, d] ∧ BookAt a m k B ∧ IsCl a d r ∧ Suits B r.2 ∧ P .non m
theorem p_check_claim (h : T_check_claim a ds m P) : s_check_claim K a (T_check_told a) (T_Book_meetings a) T_check_known (T_Book_people a) (T_Book_versions a) (ends1 P) (startG N_check_claim ds) m := by
  obtain ⟨k, B, d, r, rfl, hb, hd, hs, h⟩ := h
  have ne : ("held" : Str) ≠ "told" ∧ ("knew" : Str) ≠ "told" ∧ ("knew" : Str) ≠ "held" ∧ ("began" : Str) ≠ "told" ∧ ("began" : Str) ≠ "held" ∧ ("began" : Str) ≠ "knew" ∧ ("turned" : Str) ≠ "told" ∧ ("turned" : Str) ≠ "held" ∧ ("turned" : Str) ≠ "knew" := by decide +kernel
  obtain ⟨n1, n2, n3, n4, n5, n6, n7, n8, n9⟩ := ne
  unfold s_check_claim
  refine seq_step fun R hR => ?_
  walk_at "hbr"
  refine sFld_cl hd rfl ?_
  subst hR
  generalize r.2 = c at *
  cases c with
  | told t g f l =>
    refine seq_step fun R hR => ?_
    refine if_step fun S U hS hU => ?_
    walk_at "hbr"
    refine ⟨_, words_0 _, ?_⟩
    unfold Cl.kind
    walk_at "hbr"
    rw [hS]
    walk_at "hbr"
    refine ⟨k, B, t, g, f, l, rfl, hb, hs, endN h⟩
  | held i =>
    obtain ⟨x, hx, hsu⟩ := hs
    have hil : i < B.meetings.length := (List.getElem?_eq_some_iff.mp hx).1
    refine seq_step fun R hR => ?_
    refine if_step fun S U hS hU => ?_
    simp only [Cl.words]
    walk_at "hbr"
    rw [decide_eq_false n1]
    walk_at "hbr"
    rw [hU]
    clear hS hU
    walk_at "hbr"
    subst hR
    refine seq_step fun R hR => ?_
    refine if_step fun S U hS hU => ?_
    walk_at "hbr"
    rw [hS]
    clear hS hU
    refine seq_step fun R hR => ?_
    walk_at "hbr"
    refine q_meetings hb rfl ?_
    subst hR
    refine seq_step fun R hR => ?_
    refine if_step fun S U hS hU => ?_
    walk_at "hbr"
    rw [decide_eq_true (by omega)]
    walk_at "hbr"
    rw [List.length_map, decide_eq_true (by omega)]
    walk_at "hbr"
    rw [hU]
    clear hS hU
    walk_at "hbr"
    subst hR
    refine seq_step fun R hR => ?_
    refine if_step fun S U hS hU => ?_
    walk_at "hbr"
    refine ⟨_, by rw [List.getElem?_map, hx]; rfl, ?_⟩
    unfold Mt.d
    walk_at "hbr"
    rw [hsu]
    walk_at "hbr"
    rw [hU]
    clear hS hU
    walk_at "hbr"
    subst hR
    walk_at "hbr"
    exact endN h
  | knew p d v =>
    obtain ⟨h1, h2, h3⟩ := hs
    obtain ⟨dv, hv⟩ : ∃ d, d = oS v := ⟨_, rfl⟩
    simp only [Cl.words]
    rw [← hv]
    refine seq_step fun R hR => ?_
    refine if_step fun S U hS hU => ?_
    walk_at "hbr"
    rw [decide_eq_false n2]
    walk_at "hbr"
    rw [hU]
    clear hS hU
    walk_at "hbr"
    subst hR
    refine seq_step fun R hR => ?_
    refine if_step fun S U hS hU => ?_
    walk_at "hbr"
    rw [decide_eq_false n3]
    walk_at "hbr"
    rw [hU]
    clear hS hU
    walk_at "hbr"
    subst hR
    refine seq_step fun R hR => ?_
    walk_at "hbr"
    refine q_people hb rfl ?_
    refine ⟨some p, B.people, rfl, h1, ?_⟩
    subst hR
    refine seq_step fun R hR => ?_
    refine if_step fun S U hS hU => ?_
    walk_at "hbr"
    rw [hS]
    clear hS hU
    refine seq_step fun R hR => ?_
    refine if_step fun S U hS hU => ?_
    walk_at "hbr"
    rw [decide_eq_true (by omega)]
    walk_at "hbr"
    refine sFld_bk hb rfl rfl ?_
    walk_at "hbr"
    rw [decide_eq_true (by omega)]
    walk_at "hbr"
    rw [hU]
    clear hS hU
    walk_at "hbr"
    subst hR
    refine seq_step fun R hR => ?_
    walk_at "hbr"
    refine q_versions hb rfl ?_
    refine ⟨v, B.versions, by rw [hv], h3, ?_⟩
    subst hR
    walk_at "hbr"
    exact endN h
  | began p v =>
    obtain ⟨h1, h2⟩ := hs
    obtain ⟨dv, hv⟩ : ∃ d, d = oS v := ⟨_, rfl⟩
    simp only [Cl.words]
    rw [← hv]
    refine seq_step fun R hR => ?_
    refine if_step fun S U hS hU => ?_
    walk_at "hbr"
    rw [decide_eq_false n4]
    walk_at "hbr"
    rw [hU]
    clear hS hU
    walk_at "hbr"
    subst hR
    refine seq_step fun R hR => ?_
    refine if_step fun S U hS hU => ?_
    walk_at "hbr"
    rw [decide_eq_false n5]
    walk_at "hbr"
    rw [hU]
    clear hS hU
    walk_at "hbr"
    subst hR
    refine seq_step fun R hR => ?_
    walk_at "hbr"
    refine q_people hb rfl ?_
    refine ⟨some p, B.people, rfl, h1, ?_⟩
    subst hR
    refine seq_step fun R hR => ?_
    refine if_step fun S U hS hU => ?_
    walk_at "hbr"
    rw [decide_eq_false n6]
    walk_at "hbr"
    rw [hU]
    clear hS hU
    walk_at "hbr"
    subst hR
    refine for_step fun G hG => ?_
    unfold iTp
    walk_at "hbr"
    have ec : cutD [D.str "began", .str p, dv] (some 2) none = [dv] := rfl
    rw [ec]
    refine ⟨by decide, fun i Γ m' => m' = m ∧ ∃ x, Γ = [some (.ref k.p), some d, some (.tup [D.str "began", .str p, dv]), x, none], ⟨rfl, _, rfl⟩, fun _ _ _ _ _ => trivial, ?_, ?_⟩
    · rintro i Γ m' hi ⟨rfl, x, rfl⟩
      rw [hG]
      clear hG
      walk_at "hbr"
      refine q_versions hb rfl ?_
      match i, hi with
      | 0, _ => exact ⟨v, B.versions, by rw [hv]; rfl, h2, rfl, _, rfl⟩
    · rintro Γ m' ⟨rfl, x, rfl⟩
      exact endN h
  | turned p o n =>
    obtain ⟨h1, h2, h3⟩ := hs
    obtain ⟨dv, hv⟩ : ∃ d, d = oS o := ⟨_, rfl⟩
    obtain ⟨dw, hw⟩ : ∃ d, d = oS n := ⟨_, rfl⟩
    simp only [Cl.words]
    rw [← hv, ← hw]
    refine seq_step fun R hR => ?_
    refine if_step fun S U hS hU => ?_
    walk_at "hbr"
    rw [decide_eq_false n7]
    walk_at "hbr"
    rw [hU]
    clear hS hU
    walk_at "hbr"
    subst hR
    refine seq_step fun R hR => ?_
    refine if_step fun S U hS hU => ?_
    walk_at "hbr"
    rw [decide_eq_false n8]
    walk_at "hbr"
    rw [hU]
    clear hS hU
    walk_at "hbr"
    subst hR
    refine seq_step fun R hR => ?_
    walk_at "hbr"
    refine q_people hb rfl ?_
    refine ⟨some p, B.people, rfl, h1, ?_⟩
    subst hR
    refine seq_step fun R hR => ?_
    refine if_step fun S U hS hU => ?_
    walk_at "hbr"
    rw [decide_eq_false n9]
    walk_at "hbr"
    rw [hU]
    clear hS hU
    walk_at "hbr"
    subst hR
    refine for_step fun G hG => ?_
    unfold iTp
    walk_at "hbr"
    have ec : cutD [D.str "turned", .str p, dv, dw] (some 2) none = [dv, dw] := rfl
    rw [ec]
    refine ⟨by decide, fun i Γ m' => m' = m ∧ ∃ x, Γ = [some (.ref k.p), some d, some (.tup [D.str "turned", .str p, dv, dw]), x, none], ⟨rfl, _, rfl⟩, fun _ _ _ _ _ => trivial, ?_, ?_⟩
    · rintro i Γ m' hi ⟨rfl, x, rfl⟩
      rw [hG]
      clear hG
      walk_at "hbr"
      refine q_versions hb rfl ?_
      match i, hi with
      | 0, _ => exact ⟨o, B.versions, by rw [hv]; rfl, h2, rfl, _, rfl⟩
      | 1, _ => exact ⟨n, B.versions, by rw [hw]; rfl, h3, rfl, _, rfl⟩
    · rintro Γ m' ⟨rfl, x, rfl⟩
      exact endN h
def T_check_claims (a : Ad) : PT1 := fun ds m P => ∃ k B xs rs, ds = [.ref k.p, .lst xs] ∧ BookAt a m k B ∧ IsCls a xs rs ∧ (∀ r ∈ rs, Suits B r.2) ∧ P .non m
theorem p_check_claims (h : T_check_claims a ds m P) : s_check_claims K a (T_check_claim a) (ends1 P) (startG N_check_claims ds) m := by
  obtain ⟨k, B, xs, rs, rfl, hb, hx, hs, h⟩ := h
  have hl := paired_len hx
  unfold s_check_claims
  refine for_step fun G hG => ?_
  unfold iLst
  walk_at "hbr"
  refine ⟨fun i Γ m' => m' = m ∧ ∃ x, Γ = [some (.ref k.p), some (.lst xs), x], ⟨rfl, _, rfl⟩, fun _ _ _ _ _ => trivial, ?_, ?_⟩
  · rintro i Γ m' hi ⟨rfl, x, rfl⟩
    rw [hG]
    clear hG
    have hi' : i < rs.length := by omega
    obtain ⟨d, h1, h2⟩ := paired_at hx (List.getElem?_eq_getElem hi')
    have e : dget xs i = d := by unfold dget; rw [List.getD_eq_getElem?_getD, h1]; rfl
    rw [e]
    walk_at "hbr"
    exact ⟨k, B, d, _, rfl, hb, h2, hs _ (List.getElem_mem hi'), rfl, _, rfl⟩
  · rintro Γ m' ⟨rfl, x, rfl⟩
    exact endN h
end
set_option Elab.async false
set_option linter.all false
set_option maxRecDepth 100000
set_option maxHeartbeats 4000000
section
open PySem L2 TL
variable {K : PySem.W.Frag} {a : Ad} {ds : List D} {m m' m'' : Mem} {P : PD} {k : BkA} {B : Bk}
theorem paired_snoc {A B : Type} {F : A → B → Prop} {x : A} {y : B} (h : F x y) : ∀ {xs : List A} {ys : List B}, Paired F xs ys → Paired F (xs ++ [x]) (ys ++ [y])
  | _, _, .nil => .cons h .nil
  | _, _, .cons r t => .cons r (paired_snoc h t)
theorem paired_at' {A B : Type} {F : A → B → Prop} {xs : List A} {ys : List B} (h : Paired F xs ys) {i : Nat} (hi : i < ys.length) : ∃ x, xs[i]? = some x ∧ F x ys[i] := paired_at h (List.getElem?_eq_getElem hi)
def T_Book_fact0 (a : Ad) : PT1 := fun ds m P => ∃ k B d xs rs, ds = [.ref k.p, .tup [d]] ∧ BookAt a m k B ∧ factXs a d xs ∧ IsCls a xs rs ∧ B.takes (.fact rs) ∧ (∀ rs ∈ B.facts, rs.length ≤ 3) ∧ B.np < 1000 ∧ ∀ m' r, BookAt a m' k (B.app (.fact rs)) → Fr k m m' → P r m'
def T_Book_fact (a : Ad) : PT1 := starT 1 (T_Book_fact0 a)
theorem p_Book_fact (h : T_Book_fact0 a ds m P) : s_Book_fact K a (T_joined a) (T_check_claims a) (T_Clause_len a) (T_Book__keep a) (T_Clause_init a) (ends1 P) (startG N_Book_fact ds) m := by
  obtain ⟨k, B, d, xs, rs, rfl, hb, hf, hx, ⟨t1, t2, t3, t4⟩, h3, hn, h⟩ := h
  have hxl := paired_len hx
  have hpos : 0 < rs.length := List.length_pos_iff.mpr t1
  obtain ⟨fs, hfs, hp⟩ := hb.fa
  have hfl := paired_len hp
  unfold s_Book_fact
  refine seq_step fun R hR => ?_
  walk_at "hbr"
  refine ⟨d, xs, rfl, hf, by omega, ?_⟩
  subst hR
  refine seq_step fun R hR => ?_
  refine if_step fun S U hS hU => ?_
  walk_at "hbr"
  rw [decide_eq_false (by omega)]
  walk_at "hbr"
  rw [hU]
  clear hS hU
  walk_at "hbr"
  subst hR
  refine seq_step fun R hR => ?_
  refine if_step fun S U hS hU => ?_
  walk_at "hbr"
  rw [decide_eq_false (by omega)]
  walk_at "hbr"
  rw [hU]
  clear hS hU
  walk_at "hbr"
  subst hR
  refine seq_step fun R hR => ?_
  walk_at "hbr"
  refine ⟨k, B, xs, rs, rfl, hb, hx, t3, ?_⟩
  subst hR
  refine seq_step fun R hR => ?_
  refine if_step fun S U hS hU => ?_
  walk_at "hbr"
  refine sFld_bk hb rfl rfl ?_
  walk_at "hbr"
  refine ⟨_, hfs, ?_⟩
  rw [decide_eq_false (by omega)]
  walk_at "hbr"
  rw [hU]
  clear hS hU
  walk_at "hbr"
  subst hR
  refine seq_step fun R hR => ?_
  unfold sLc iLst
  walk_at "hbr"
  refine sFld_bk hb rfl rfl ⟨fs, hfs, fun i => decide (1 < (B.facts.getD i []).length), dget fs, by omega, fun i p out hi hp0 => ⟨?_, ?_⟩, fun p out hp0 => ?_, ?_⟩
  · exact (mset_ne (mem_ne hfs hp0)).trans hfs
  · have hi' : i < B.facts.length := by omega
    obtain ⟨x, e1, xs', rfl, hc⟩ := paired_at' hp hi'
    have hcl := paired_len hc
    have e : dget fs i = clauseD a xs' := by unfold dget; rw [List.getD_eq_getElem?_getD, e1]; rfl
    have e2 : B.facts.getD i [] = B.facts[i] := by simp [List.getD, hi']
    have h4 := h3 _ (List.getElem_mem hi')
    rw [e]
    unfold rhoLenO
    walk_at "hbr"
    refine ⟨⟨_, _, ⟨rfl, rfl⟩, rfl⟩, xs', rfl, _, rfl, by omega, ?_⟩
    rw [hcl]
    refine ⟨rfl, ?_, fun _ => trivial⟩
    show decide _ = decide (1 < (B.facts.getD i []).length)
    rw [e2, decide_eq_decide]
    omega
  · exact (mset_ne (mem_ne hfs hp0)).trans hfs
  · have hw : ((List.range fs.length).filter fun i => decide (1 < (B.facts.getD i []).length)).length < 4 := by
      have := List.length_filter_le (fun i => decide (1 < (B.facts.getD i []).length)) (List.range fs.length)
      rw [List.length_range] at this
      omega
    rw [List.length_map]
    generalize ((List.range fs.length).filter fun i => decide (1 < (B.facts.getD i []).length)).length = wd at *
    subst hR
    refine seq_step fun R hR => ?_
    refine if_step fun S U hS hU => ?_
    have go : U [some (.ref k.p), some (.tup [d]), some (.lst xs), some (.int (wd : Nat)), none] m := by
      rw [hU]
      clear hS hU
      walk_at "hbr"
      subst hR
      refine seq_step fun R hR => ?_
      walk_at "hbr"
      refine meth_bk hb rfl rfl ⟨k, B, rfl, hb, hn, fun m1 hb1 f1 => ?_⟩
      subst hR
      refine seq_step fun R hR => ?_
      walk_at "hbr"
      refine sFld_bk hb1 rfl rfl ?_
      obtain ⟨fs1, hf1, hp1⟩ := hb1.fa
      have hfl1 := paired_len hp1
      have hfl1 : fs1.length = B.facts.length := hfl1
      walk_at "hbr"
      refine ⟨⟨_, hf1⟩, ?_⟩
      unfold sMakeS
      walk_at "hbr"
      rw [List.append_nil]
      refine make_clause (by omega) ?_
      refine ⟨_, hf1, by omega, ?_⟩
      subst hR
      have hb2 := hb1.setF (fs := fs1 ++ [clauseD a xs]) (rs := B.facts ++ [rs]) (paired_snoc ⟨xs, rfl, hx⟩ hp1) (by rw [List.length_append]; simp; omega)
      walk_at "hbr"
      refine sFld_bk (B := { B with np := B.np + 1, facts := B.facts ++ [rs] }) hb2 rfl rfl ?_
      walk_at "hbr"
      exact ⟨_, mset_same, endN (h _ _ hb2 (f1.trans (Fr.set inF)))⟩
    clear hS hU hR
    walk_at "hbr"
    by_cases e1 : (1 : Int) < (xs.length : Int)
    · rw [decide_eq_true e1]
      walk_at "hbr"
      rw [decide_eq_false (by omega)]
      exact go
    · rw [decide_eq_false e1]
      exact go
/-! a deed done -/
def Bk.fine (B : Bk) : Prop := (∀ y ∈ B.turns, y.names) ∧ ∀ rs ∈ B.facts, rs.length ≤ 3 ∧ ∀ r ∈ rs, r.2.ok
theorem fine_app {d : Deed} (h : B.fine) (hd : d.ok) : (B.app d).fine := by
  cases d with
  | meet x => exact h
  | turn x =>
    refine ⟨fun y hy => ?_, h.2⟩
    rcases List.mem_append.mp hy with hy | hy
    · exact h.1 y hy
    · rw [List.mem_singleton.mp hy]; exact hd
  | fact rs =>
    refine ⟨h.1, fun x hx => ?_⟩
    rcases List.mem_append.mp hx with hx | hx
    · exact h.2 x hx
    · rw [List.mem_singleton.mp hx]; exact ⟨hd.2.1, hd.2.2⟩
  | limit i c => exact h
theorem cls_map (rs : List Row) : IsCls a (rs.map (clD (a.g "Claim"))) rs := by
  induction rs with
  | nil => exact .nil
  | cons r rs ih => exact .cons ⟨_, .inl rfl, rfl⟩ ih
def T_Book__do (a : Ad) : PT1 := fun ds m P => ∃ k B d, ds = [.ref k.p, d.d a] ∧ BookAt a m k B ∧ B.takes d ∧ d.ok ∧ B.fine ∧ B.np < 1000 ∧ ∀ m' r, BookAt a m' k (B.app d) → Fr k m m' → P r m'
theorem p_Book__do (h : T_Book__do a ds m P) : s_Book__do K a (T_Book_meet a) (T_Book_may_turn a) (T_Book_change a) (T_Book_fact a) (ends1 P) (startG N_Book__do ds) m := by
  obtain ⟨k, B, d, rfl, hb, ht, ho, hf, hn, h⟩ := h
  have h' : ∀ m', BookAt a m' k (B.app d) → Fr k m m' → ∃ m'', Le m'' m' ∧ P .non m'' := fun m' x y => endN (h m' .non x y)
  unfold s_Book__do sMatch
  cases d with
  | meet x =>
    simp only [Deed.d]
    walk_at "hbr"
    unfold sCase
    refine ⟨_, rfl, by simp, fun q => absurd q (by simp), fun _ => ?_⟩
    refine ⟨_, rfl, by simp, fun q => absurd q (by simp), fun _ => ?_⟩
    refine ⟨_, rfl, by simp, fun q => absurd q (by simp), fun _ => ?_⟩
    refine ⟨_, rfl, by simp, fun _ => ?_, fun q => absurd rfl q⟩
    simp only [setGs]
    unfold sMethK
    walk_at "hbr"
    refine ⟨⟨_, hb.at_, rfl⟩, ?_⟩
    exact ⟨k, B, x, rfl, hb, ht, hn, fun m' r x y => h' m' x y⟩
  | turn x =>
    simp only [Deed.d]
    walk_at "hbr"
    unfold sCase
    refine ⟨_, rfl, by simp, fun q => absurd q (by simp), fun _ => ?_⟩
    refine ⟨_, rfl, by simp, fun q => absurd q (by simp), fun _ => ?_⟩
    refine ⟨_, rfl, by simp, fun _ => ?_, fun q => absurd rfl q⟩
    simp only [setGs]
    walk_at "hbr"
    refine meth_bk hb rfl rfl ?_
    exact ⟨k, B, x, rfl, hb, ht, ho, hf.1, hn, fun m' r x y => h' m' x y⟩
  | fact rs =>
    simp only [Deed.d]
    walk_at "hbr"
    unfold sCase
    refine ⟨_, rfl, by simp, fun _ => ?_, fun q => absurd rfl q⟩
    simp only [setGs]
    walk_at "hbr"
    refine meth_bk hb rfl rfl ?_
    refine ⟨by simp, by simp, k, B, _, _, rs, rfl, hb, .inl rfl, cls_map rs, ht, fun x hx => (hf.2 x hx).1, hn, fun m' r x y => h' m' x y⟩
  | limit i c =>
    simp only [Deed.d]
    obtain ⟨dc, hc⟩ : ∃ d, d = oN c := ⟨_, rfl⟩
    rw [← hc]
    walk_at "hbr"
    unfold sCase
    refine ⟨_, rfl, by simp, fun q => absurd q (by simp), fun _ => ?_⟩
    refine ⟨_, rfl, by simp, fun _ => ?_, fun q => absurd rfl q⟩
    simp only [setGs]
    walk_at "hbr"
    refine meth_bk hb rfl rfl ?_
    exact ⟨k, B, i, c, by rw [hc], hb, ht, hn, fun m' x y => h' m' x y⟩
end
set_option Elab.async false
set_option linter.all false
set_option maxRecDepth 100000
set_option maxHeartbeats 4000000
section
open PySem L2 TL
variable {K : PySem.W.Frag} {a : Ad} {ds : List D} {m m' m'' : Mem} {P : PD} {k : BkA} {B : Bk}
/-! in -/
theorem eqC {d e : D} {r s : Row} (hd : IsCl a d r) (he : IsCl a e s) : ∃ C D' b, (∃ fs, asO m d C fs) ∧ (∃ gs, asO m e D' gs) ∧ GEq a C D' b := by
  obtain ⟨C, hC, ho⟩ := asO_cl (m := m) hd
  obtain ⟨E, hE, ho'⟩ := asO_cl (m := m) he
  by_cases e1 : E = C
  · exact ⟨C, E, false, ⟨_, ho⟩, ⟨_, ho'⟩, hC, hE, .inr ⟨rfl, .inl e1⟩⟩
  · by_cases e2 : C = a.g "Claim"
    · exact ⟨C, E, true, ⟨_, ho⟩, ⟨_, ho'⟩, hC, hE, .inl ⟨rfl, e2, e1⟩⟩
    · exact ⟨C, E, false, ⟨_, ho⟩, ⟨_, ho'⟩, hC, hE, .inr ⟨rfl, .inr e2⟩⟩
theorem q_eqO {d e : D} {r s : Row} {Q : PD} (hd : IsCl a d r) (he : IsCl a e s) (hr : r.2.ok) (hs : s.2.ok) (h : Q (.bl (decide (r = s))) m) : rhoEqO (GEq a) (T_Claim_eq a) d e m Q := by
  obtain ⟨C, E, b, ⟨fs, h1⟩, ⟨gs, h2⟩, h3⟩ := eqC (m := m) hd he
  refine ⟨C, E, fs, gs, b, h1, h2, h3, ?_⟩
  cases b with
  | true => exact ⟨e, s, d, r, rfl, he, hd, hs, hr, by
      have : decide (s = r) = decide (r = s) := by by_cases q : r = s <;> simp [q, eq_comm]
      rw [this]; exact h⟩
  | false => exact ⟨d, r, e, s, rfl, hd, he, hr, hs, h⟩
def T_Book_contains (a : Ad) : PT1 := fun ds m P => ∃ k B d r, ds = [.ref k.p, d] ∧ BookAt a m k B ∧ B.fine ∧ IsCl a d r ∧ r.2.ok ∧ P (.bl (decide ([r] ∈ B.facts))) m
theorem p_Book_contains (h : T_Book_contains a ds m P) : s_Book_contains K a (T_Clause_claims a) (T_Claim_eq a) (ends1 P) (startG N_Book_contains ds) m := by
  obtain ⟨k, B, d, r, rfl, hb, hf, hd, hr, h⟩ := h
  obtain ⟨fs, hfs, hp⟩ := hb.fa
  have hfl := paired_len hp
  unfold s_Book_contains
  refine seq_step fun R hR => ?_
  refine for_step fun G hG => ?_
  unfold iLst
  walk_at "hbr"
  refine sFld_bk hb rfl rfl ⟨fs, hfs, fun i Γ m' => m' = m ∧ [r] ∉ B.facts.take i ∧ ∃ x y, Γ = [some (.ref k.p), some d, x, y], ⟨rfl, by simp, _, _, rfl⟩, ?_, ?_, ?_⟩
  · rintro i Γ m' _ ⟨rfl, _⟩; exact hfs
  · rintro i Γ m' hi ⟨rfl, hni, x, y, rfl⟩
    have hi' : i < B.facts.length := by omega
    obtain ⟨c, e1, xs, rfl, hc⟩ := paired_at' hp hi'
    have hcl := paired_len hc
    have e : dget fs i = clauseD a xs := by unfold dget; rw [List.getD_eq_getElem?_getD, e1]; rfl
    obtain ⟨h3, hok⟩ := hf.2 _ (List.getElem_mem hi')
    have hstep : ∀ rs, B.facts[i] = rs → rs ≠ [r] → [r] ∉ B.facts.take (i + 1) := fun rs hrs hne => by
      rw [take_succ' hi', hrs]
      simp only [List.mem_append, List.mem_singleton, not_or]
      exact ⟨hni, fun q => hne q.symm⟩
    generalize hrs : B.facts[i] = rs at *
    rw [hG, e]
    clear hG
    simp only [gN]
    refine seq_step fun R hR => ?_
    unfold sMeth
    walk_at "hbr"
    refine ⟨⟨_, ⟨rfl, rfl⟩, rfl⟩, xs, rfl, ?_⟩
    subst hR
    walk_at "hbr"
    match xs, rs, hc with
    | [], [], .nil =>
      walk_at "hbr"
      exact ⟨hstep _ rfl (by simp), _, _, rfl⟩
    | [x], [s], .cons hx .nil =>
      walk_at "hbr"
      refine q_eqO hx hd (hok s (by simp)) hr ?_
      walk_at "hbr"
      by_cases q : s = r
      · rw [decide_eq_true q]
        walk_at "hbr"
        have hm : [r] ∈ B.facts := by
          rw [← q, ← hrs]; exact List.getElem_mem hi'
        rw [decide_eq_true hm] at h
        exact endN h
      · rw [decide_eq_false q]
        exact ⟨hstep _ rfl (by simp [q]), _, _, rfl⟩
    | x :: y :: xs, s :: t :: rs, .cons _ (.cons _ ht) =>
      walk_at "hbr"
      rw [decide_eq_false (by omega)]
      exact ⟨hstep _ rfl (by simp), _, _, rfl⟩
  · rintro Γ m' ⟨rfl, hni, x, y, rfl⟩
    rw [hfl, List.take_length] at hni
    rw [decide_eq_false hni] at h
    subst hR
    exact endN h
/-! made -/
structure Mk0 (a : Ad) (m : Mem) (p : Addr) (fs : List (Str × D)) (as : List Addr) (M : Mem) : Prop where
  at_ : M p = some (.ins (a.g "Book") fs)
  ls : ∀ x ∈ as, M x = some (.lst []) ∧ m x = none
  nd : (p :: as).Nodup
  out : ∀ x, x ∉ p :: as → M x = m x
theorem Mk0.fld {p : Addr} {fs gs : List (Str × D)} {as : List Addr} {M : Mem} (h : Mk0 a m p fs as M) : Mk0 a m p gs as (mset M p (.ins (a.g "Book") gs)) :=
  ⟨mset_same, fun x hx => ⟨by rw [mset_ne (fun e => (List.nodup_cons.mp h.nd).1 (by rw [← e]; exact hx))]; exact (h.ls x hx).1, (h.ls x hx).2⟩, h.nd, fun x hx => by
    rw [mset_ne (fun e => hx (by rw [e]; simp))]; exact h.out x hx⟩
theorem Mk0.new {p q : Addr} {fs : List (Str × D)} {as : List Addr} {M : Mem} (h : Mk0 a m p fs as M) (hq : M q = none) : Mk0 a m p fs (as ++ [q]) (mset M q (.lst [])) := by
  have hp : q ≠ p := fun e => by rw [e, h.at_] at hq; cases hq
  have ha : q ∉ as := fun e => by rw [(h.ls q e).1] at hq; cases hq
  refine ⟨by rw [mset_ne (Ne.symm hp)]; exact h.at_, fun x hx => ?_, ?_, fun x hx => ?_⟩
  · rcases List.mem_append.mp hx with hx | hx
    · rw [mset_ne (fun e => ha (by rw [← e]; exact hx))]; exact h.ls x hx
    · rw [List.mem_singleton.mp hx]
      refine ⟨mset_same, ?_⟩
      rw [← h.out q (by simp [hp, ha])]; exact hq
  · have := h.nd
    rw [← List.cons_append, List.nodup_append]
    refine ⟨this, by simp, ?_⟩
    intro x hx y hy e
    rw [List.mem_singleton.mp hy] at e
    subst e
    rcases List.mem_cons.mp hx with rfl | hx
    · exact hp rfl
    · exact ha hx
  · rw [← List.cons_append] at hx
    simp only [List.mem_append, not_or, List.mem_singleton] at hx
    rw [mset_ne hx.2]; exact h.out x hx.1
theorem q_fset {f : Str} {sv : SE} {E : SEnds} {Γ : GEnv} {M : Mem} {p : Addr} (hj : Γ[0]? = some (some (.ref p))) (h : sv Γ M fun y m1 => ∃ fs, m1 p = some (.ins (a.g "Book") fs) ∧ fs.length < 900 ∧ E.nx Γ (mset m1 p (.ins (a.g "Book") (putD f y fs)))) : sFldSet (GBook a) f (sVar 0) sv E Γ M := by
  unfold sFldSet
  have e : (fun y m1 => sVar 0 Γ m1 fun d m2 => ∃ a_1 C fs, d = D.ref a_1 ∧ m2 a_1 = some (MO.ins C fs) ∧ GBook a C ∧ fs.length < 900 ∧ E.nx Γ (mset m2 a_1 (MO.ins C (putD f y fs)))) = fun y m1 => ∃ fs, m1 p = some (.ins (a.g "Book") fs) ∧ fs.length < 900 ∧ E.nx Γ (mset m1 p (.ins (a.g "Book") (putD f y fs))) := by
    funext y m1
    unfold sVar
    rw [hj]
    apply propext
    constructor
    · rintro ⟨p', C, fs, h1, h2, h3, h4, h5⟩
      cases h1
      have h3 : C = a.g "Book" := h3
      subst h3
      exact ⟨fs, h2, h4, h5⟩
    · rintro ⟨fs, h2, h4, h5⟩
      exact ⟨p, _, fs, rfl, h2, rfl, h4, h5⟩
  rw [e]
  exact h
def T_Book_init (a : Ad) : PT1 := fun ds m P => ∃ p pp vs last, ds = [.ref p, .lst (pp.map .str), .lst (vs.map .str), .int (last : Nat)] ∧ m p = some (.ins (a.g "Book") []) ∧ HeadOK pp vs last ∧
  ∀ k m', k.p = p → BookAt a m' k (Bk.start pp vs last) → (∀ x ∈ k.all, x ≠ p → m x = none) → Fr k m m' → P .non m'
theorem p_Book_init (h : T_Book_init a ds m P) : s_Book_init K a T_check_names (ends1 P) (startG N_Book_init ds) m := by
  obtain ⟨p, pp, vs, last, rfl, hm, ⟨h1, h2, h3, h4, h5, h6, h7, h8, h9, h10⟩, h⟩ := h
  have J : Mk0 a m p [] [] m := ⟨hm, fun x hx => by (cases hx), by simp, fun _ _ => rfl⟩
  unfold s_Book_init
  refine seq_step fun R hR => ?_
  walk_at "hbr"
  refine ⟨pp, 8, rfl, h1, h2, h3, h4, by decide, ?_⟩
  subst hR
  refine seq_step fun R hR => ?_
  walk_at "hbr"
  refine ⟨vs, 3, rfl, h5, h6, h7, h8, by decide, ?_⟩
  subst hR
  refine seq_step fun R hR => ?_
  refine if_step fun S U hS hU => ?_
  walk_at "hbr"
  rw [decide_eq_true (by omega)]
  walk_at "hbr"
  rw [decide_eq_true (by omega)]
  walk_at "hbr"
  rw [hU]
  clear hS hU
  walk_at "hbr"
  subst hR
  refine seq_step fun R hR => q_fset rfl ?_
  walk_at "hbr"
  refine ⟨_, J.at_, by simp, ?_⟩
  have J := J.fld (gs := putD "last_day" (.int last) [])
  subst hR
  refine seq_step fun R hR => q_fset rfl ?_
  walk_at "hbr"
  refine ⟨_, J.at_, by show 1 < 900; decide, ?_⟩
  have J := J.fld (gs := putD "_people" (.lst (pp.map .str)) (putD "last_day" (.int last) []))
  subst hR
  refine seq_step fun R hR => q_fset rfl ?_
  walk_at "hbr"
  refine ⟨_, J.at_, by show 2 < 900; decide, ?_⟩
  have J := J.fld (gs := putD "_versions" (.lst (vs.map .str)) (putD "_people" (.lst (pp.map .str)) (putD "last_day" (.int last) [])))
  subst hR
  generalize hM : mset (mset (mset m p _) p _) p _ = M at *
  refine seq_step fun R hR => q_fset rfl ?_
  walk_at "hbr"
  refine ⟨by decide, fun x1 hx1 => ?_⟩
  have J := J.new hx1
  refine ⟨_, J.at_, by show 3 < 900; decide, ?_⟩
  have J := J.fld (gs := [("last_day", .int last), ("_people", .lst (pp.map .str)), ("_versions", .lst (vs.map .str)), ("_meetings", .ref x1)])
  subst hR
  refine seq_step fun R hR => q_fset rfl ?_
  walk_at "hbr"
  refine ⟨by decide, fun x2 hx2 => ?_⟩
  have J := J.new hx2
  refine ⟨_, J.at_, by show 4 < 900; decide, ?_⟩
  have J := J.fld (gs := [("last_day", .int last), ("_people", .lst (pp.map .str)), ("_versions", .lst (vs.map .str)), ("_meetings", .ref x1), ("_turns", .ref x2)])
  subst hR
  refine seq_step fun R hR => q_fset rfl ?_
  walk_at "hbr"
  refine ⟨by decide, fun x3 hx3 => ?_⟩
  have J := J.new hx3
  refine ⟨_, J.at_, by show 5 < 900; decide, ?_⟩
  have J := J.fld (gs := [("last_day", .int last), ("_people", .lst (pp.map .str)), ("_versions", .lst (vs.map .str)), ("_meetings", .ref x1), ("_turns", .ref x2), ("_facts", .ref x3)])
  subst hR
  refine seq_step fun R hR => q_fset rfl ?_
  walk_at "hbr"
  refine ⟨by decide, ?_⟩
  refine ⟨_, J.at_, by show 6 < 900; decide, ?_⟩
  have J := J.fld (gs := [("last_day", .int last), ("_people", .lst (pp.map .str)), ("_versions", .lst (vs.map .str)), ("_meetings", .ref x1), ("_turns", .ref x2), ("_facts", .ref x3), ("_limits", .tup [.int 1, .non, .non, .non])])
  subst hR
  refine q_fset rfl ?_
  walk_at "hbr"
  refine ⟨by decide, fun x4 hx4 => ?_⟩
  have J := J.new hx4
  refine ⟨_, J.at_, by show 7 < 900; decide, endN ?_⟩
  have J := J.fld (gs := [("last_day", .int last), ("_people", .lst (pp.map .str)), ("_versions", .lst (vs.map .str)), ("_meetings", .ref x1), ("_turns", .ref x2), ("_facts", .ref x3), ("_limits", .tup [.int 1, .non, .non, .non]), ("_past", .ref x4)])
  refine h ⟨p, x1, x2, x3, x4⟩ _ rfl ⟨J.at_, (J.ls x1 (by simp)).1, (J.ls x2 (by simp)).1, ⟨[], (J.ls x3 (by simp)).1, .nil⟩, ⟨[], (J.ls x4 (by simp)).1, rfl⟩, J.nd, by simp [Bk.start], by simp [Bk.start], by simp [Bk.start], by simp [Bk.start], by simp [Bk.start]⟩ ?_ ?_
  · intro x hx hxp
    refine (J.ls x ?_).2
    simp only [BkA.all, List.mem_cons, List.not_mem_nil, or_false] at hx
    rcases hx with rfl | rfl | rfl | rfl | rfl
    · exact absurd rfl hxp
    · simp
    · simp
    · simp
    · simp
  · intro x hx
    exact J.out x hx
end
set_option Elab.async false
set_option linter.all false
set_option maxRecDepth 100000
set_option maxHeartbeats 4000000
section
open PySem L2 TL
variable {K : PySem.W.Frag} {a : Ad} {ds : List D} {m m' m'' : Mem} {P : PD} {k : BkA} {B : Bk}
structure Bk.good (B : Bk) : Prop where
  head : HeadOK B.people B.versions B.last
  mt : ∀ x ∈ B.meetings, (Deed.meet x).ok
  tn : ∀ x ∈ B.turns, (Deed.turn x).ok
  fa : ∀ rs ∈ B.facts, (Deed.fact rs).ok
  li : ∀ i, i < 4 → ∃ c, B.limits[i]? = some c ∧ OptN (· ≤ 24) c
  few : B.meetings.length ≤ 24 ∧ B.turns.length ≤ 6 ∧ B.facts.length ≤ 4
theorem tl_sp : tl (" " : Str) = [32] := by decide +kernel
theorem tl_em : tl Str.empty = [] := by decide +kernel
theorem j_people (w w' : Str) (xs : List Str) (h : xs ≠ []) (hw : tl w' = tl w ++ [32]) : (Str.empty ++ w') ++ Txt.join " " xs = Txt.join " " (w :: xs) := by
  apply ext_tl
  rw [tl_joinW, tl_append, tl_append, tl_joinW, hw, tl_em, List.map_cons]
  cases q : xs.map tl with
  | nil => exact absurd (List.map_eq_nil_iff.mp q) h
  | cons y ys => simp [joinL]
theorem j2 (w' x : Str) (w : Str) (hw : tl w' = tl w ++ [32]) : (Str.empty ++ w') ++ x = Txt.join " " [w, x] := by
  have := j_people w w' [x] (by simp) hw
  rw [← this]
  rfl
theorem j4 (w x y z : Str) : ((((((Str.empty ++ w) ++ " ") ++ x) ++ " ") ++ y) ++ " ") ++ z = Txt.join " " [w, x, y, z] := by
  apply ext_tl
  rw [tl_joinW]
  simp only [tl_append, tl_sp, tl_em, List.map_cons, List.map_nil, joinL]
  simp
theorem j4t (w w' x y z : Str) (hw : tl w' = tl w ++ [32]) : (((((Str.empty ++ w') ++ x) ++ " ") ++ y) ++ " ") ++ z = Txt.join " " [w, x, y, z] := by
  apply ext_tl
  rw [tl_joinW]
  simp only [tl_append, tl_sp, tl_em, hw, List.map_cons, List.map_nil, joinL]
  simp
theorem f_fact (x : Str) : ("fact " : Str) ++ x = Txt.join " " [("fact" : Str), x] := by
  apply ext_tl
  rw [tl_joinW]
  have : tl ("fact " : Str) = tl ("fact" : Str) ++ [32] := by decide +kernel
  simp only [tl_append, this, List.map_cons, List.map_nil, joinL]
  simp
theorem names_join {xs : List Str} (h : ∀ z ∈ xs, NameOK z) (hl : xs.length ≤ 8) : (Txt.join " " xs).length ≤ 110 ∧ (xs.map (·.length)).sum + xs.length * (" " : Str).length ≤ 16777216 := by
  have h1 := wd_len (ws := xs) (by omega) fun w q => name_wd (h w q)
  have h2 := sum_le (k := 10) (ws := xs) fun w q => (name_wd (h w q)).2
  have h3 : (" " : Str).length = 1 := by decide +kernel
  rw [h3]
  exact ⟨h1, by omega⟩
theorem deed_len {d : Deed} (h : d.ok) : d.line.length ≤ 500 := by
  cases d with
  | meet x =>
    obtain ⟨xd, x1, x2, xs⟩ := x
    obtain ⟨h1, h2, h3⟩ := h
    have : ∀ v ∈ [(if xs then "meet" else "maybe" : Str), numS xd, x1, x2], Wd v := fun v hv => by
      simp only [List.mem_cons, List.not_mem_nil, or_false] at hv
      rcases hv with rfl | rfl | rfl | rfl
      · cases xs <;> exact ⟨by decide +kernel, by decide +kernel⟩
      · exact num_wd h1
      · exact name_wd h2
      · exact name_wd h3
    have := wd_len (by simp) this
    exact Nat.le_trans this (by decide)
  | turn x =>
    obtain ⟨h1, h2, h3⟩ := h
    have : ∀ v ∈ [("turn" : Str), x.who, x.old, x.new], Wd v := fun v hv => by
      simp only [List.mem_cons, List.not_mem_nil, or_false] at hv
      rcases hv with rfl | rfl | rfl | rfl
      · exact ⟨by decide +kernel, by decide +kernel⟩
      · exact name_wd h1
      · exact name_wd h2
      · exact name_wd h3
    have := wd_len (by simp) this
    exact Nat.le_trans this (by decide)
  | fact rs =>
    obtain ⟨h0, h3, hr⟩ := h
    have := fact_len h3 hr
    show (Txt.join " " [("fact" : Str), Txt.join " or " (rs.map rowText)]).length ≤ 500
    rw [← f_fact, Str.length_append]
    have : ("fact " : Str).length = 5 := by decide +kernel
    omega
  | limit i c =>
    obtain ⟨hi, hc⟩ := h
    obtain ⟨_, k1, k2⟩ := kind_facts i hi
    have : ∀ v ∈ [("limit" : Str), kindS i, limS c], Wd v := fun v hv => by
      simp only [List.mem_cons, List.not_mem_nil, or_false] at hv
      rcases hv with rfl | rfl | rfl
      · exact ⟨by decide +kernel, by decide +kernel⟩
      · exact ⟨k1, k2⟩
      · cases c with
        | none => exact ⟨by decide +kernel, by decide +kernel⟩
        | some n => exact num_wd (by have : n ≤ 24 := hc; omega)
    have := wd_len (by simp) this
    exact Nat.le_trans this (by decide)
theorem head_len {pp vs : List Str} {last : Nat} (h : HeadOK pp vs last) : ∀ z ∈ headLines pp vs last, z.length ≤ 500 := by
  obtain ⟨h1, h2, h3, h4, h5, h6, h7, h8, h9, h10⟩ := h
  intro z hz
  have cw : ∀ (w : Str) (xs : List Str), Wd w → (∀ x ∈ xs, NameOK x) → ∀ v ∈ w :: xs, Wd v := fun w xs hw hx v hv => by
    rcases List.mem_cons.mp hv with rfl | hv
    · exact hw
    · exact name_wd (hx v hv)
  simp only [headLines, List.mem_cons, List.not_mem_nil, or_false] at hz
  rcases hz with rfl | rfl | rfl
  · exact Nat.le_trans (wd_len (by simp; omega) (cw "people" pp ⟨by decide +kernel, by decide +kernel⟩ h1)) (by decide)
  · exact Nat.le_trans (wd_len (by simp; omega) (cw "versions" vs ⟨by decide +kernel, by decide +kernel⟩ h5)) (by decide)
  · refine Nat.le_trans (wd_len (by simp) ?_) (show 110 ≤ 500 by decide)
    intro v hv
    rcases List.mem_cons.mp hv with rfl | hv
    · exact ⟨by decide +kernel, by decide +kernel⟩
    · rw [List.mem_singleton.mp hv]; exact num_wd h10
theorem limits_get (h : B.good) {i : Nat} (hi : i < 4) : OptN (· ≤ 24) (B.limits.getD i none) := by
  obtain ⟨c, e, hc⟩ := h.li i hi
  rw [List.getD_eq_getElem?_getD, e]; exact hc
theorem lines_len (h : B.good) : (∀ z ∈ B.lines, z.length ≤ 500) ∧ B.lines.length ≤ 41 := by
  refine ⟨fun z hz => ?_, ?_⟩
  · unfold Bk.lines at hz
    simp only [List.mem_append] at hz
    rcases hz with (((hz | hz) | hz) | hz) | hz
    · exact head_len h.head z hz
    · obtain ⟨x, hx, rfl⟩ := List.mem_map.mp hz; exact deed_len (h.mt x hx)
    · obtain ⟨x, hx, rfl⟩ := List.mem_map.mp hz; exact deed_len (h.tn x hx)
    · obtain ⟨x, hx, rfl⟩ := List.mem_map.mp hz; exact deed_len (h.fa x hx)
    · obtain ⟨i, hi, rfl⟩ := List.mem_map.mp hz
      exact deed_len ⟨List.mem_range.mp hi, limits_get h (List.mem_range.mp hi)⟩
  · obtain ⟨f1, f2, f3⟩ := h.few
    unfold Bk.lines
    simp only [List.length_append, List.length_map, List.length_range, headLines, List.length_cons, List.length_nil]
    omega
theorem isO_cs {d : D} {rs : List Row} (h : IsClause a d rs) : ∃ C fs, asO m d C fs ∧ GClause a C := by
  obtain ⟨xs, rfl, _⟩ := h
  exact ⟨_, _, ⟨rfl, rfl⟩, rfl⟩
theorem mset_lst {q : Addr} {xs ys : List Str} {z : Str} (h : ys = xs ++ [z]) : mset (mset m q (.lst (xs.map .str))) q (.lst (xs.map .str ++ [.str z])) = mset m q (.lst (ys.map .str)) := by
  rw [mset_mset, h, List.map_append]; rfl
theorem map_take_succ {A : Type} (f : A → Str) {xs : List A} {i : Nat} (hi : i < xs.length) (base : List Str) : base ++ (xs.take (i + 1)).map f = (base ++ (xs.take i).map f) ++ [f xs[i]] := by
  rw [take_succ' hi, List.map_append, List.append_assoc]; rfl
def T_Book_text (a : Ad) : PT1 := fun ds m P => ∃ k B, ds = [.ref k.p] ∧ BookAt a m k B ∧ B.good ∧ P (.str (Txt.join "\n" B.lines)) m
theorem p_Book_text (h : T_Book_text a ds m P) : s_Book_text K a (T_Clause_str a) T_limit_line (ends1 P) (startG N_Book_text ds) m := by
  obtain ⟨k, B, rfl, hb, hg, h⟩ := h
  obtain ⟨h1, h2, h3, h4, h5, h6, h7, h8, h9, h10⟩ := hg.head
  obtain ⟨fw1, fw2, fw3⟩ := hg.few
  obtain ⟨lp1, lp2⟩ := names_join h1 h4
  obtain ⟨lv1, lv2⟩ := names_join h5 (by omega)
  have nl := num_len h10
  have w1 : tl ("people " : Str) = tl ("people" : Str) ++ [32] := by decide +kernel
  have w2 : tl ("versions " : Str) = tl ("versions" : Str) ++ [32] := by decide +kernel
  have w3 : tl ("last " : Str) = tl ("last" : Str) ++ [32] := by decide +kernel
  have w4 : tl ("turn " : Str) = tl ("turn" : Str) ++ [32] := by decide +kernel
  have c1 : ("people " : Str).length = 7 := by decide +kernel
  have c2 : ("versions " : Str).length = 9 := by decide +kernel
  have c3 : ("last " : Str).length = 5 := by decide +kernel
  have c4 : (Str.empty : Str).length = 0 := by decide +kernel
  have c5 : (" " : Str).length = 1 := by decide +kernel
  have c6 : ("turn " : Str).length = 5 := by decide +kernel
  have c7 : ("fact " : Str).length = 5 := by decide +kernel
  unfold s_Book_text
  refine seq_step fun R hR => ?_
  walk_at "hbr"
  refine ⟨by rw [Str.length_append]; omega, ?_⟩
  refine sFld_bk hb rfl rfl ?_
  refine ⟨B.people, rfl, lp2, ?_⟩
  refine ⟨by omega, by rw [Str.length_append, Str.length_append]; omega, by rw [Str.length_append]; omega, ?_⟩
  refine sFld_bk hb rfl rfl ?_
  refine ⟨B.versions, rfl, lv2, ?_⟩
  refine ⟨by omega, by rw [Str.length_append, Str.length_append]; omega, by decide, fun q hq => ?_⟩
  rw [j_people "people" "people " B.people (by intro e; rw [e] at h3; simp at h3) w1, j_people "versions" "versions " B.versions (by intro e; rw [e] at h7; simp at h7) w2]
  have hqk : ∀ x ∈ k.all, x ≠ q := fun x hx e => by
    subst e
    have hne : m x ≠ none := by
      obtain ⟨fs, hf, _⟩ := hb.fa
      obtain ⟨ps, hps, _⟩ := hb.pa
      simp only [BkA.all, List.mem_cons, List.not_mem_nil, or_false] at hx
      rcases hx with rfl | rfl | rfl | rfl | rfl
      · rw [hb.at_]; simp
      · rw [hb.mt]; simp
      · rw [hb.tn]; simp
      · rw [hf]; simp
      · rw [hps]; simp
    exact hne hq
  have hbq : ∀ o, BookAt a (mset m q o) k B := fun o => hb.eq fun x hx => mset_ne (hqk x hx)
  subst hR
  refine seq_step fun R hR => ?_
  walk_at "hbr"
  refine ⟨⟨_, mset_same⟩, by rw [Str.length_append]; omega, ?_⟩
  refine sFld_bk (hbq _) rfl rfl ?_
  walk_at "hbr"
  refine ⟨by omega, ?_, _, mset_same, by show 2 < 1000000; decide, ?_⟩
  · have : ((Str.empty ++ "last ") ++ numS B.last : Str).length ≤ 100 := by rw [Str.length_append, Str.length_append]; omega
    exact Nat.le_trans this (by decide)
  have e0 : (Str.empty ++ "last ") ++ Str.ofString (toString (B.last : Int)) = Txt.join " " [("last" : Str), numS B.last] := j2 "last " (numS B.last) "last" w3
  rw [e0]
  have em : mset (mset m q (.lst [.str (Txt.join " " (("people" : Str) :: B.people)), .str (Txt.join " " (("versions" : Str) :: B.versions))])) q (.lst ([.str (Txt.join " " (("people" : Str) :: B.people)), .str (Txt.join " " (("versions" : Str) :: B.versions))] ++ [.str (Txt.join " " [("last" : Str), numS B.last])])) = mset m q (.lst ((headLines B.people B.versions B.last).map .str)) := by
    rw [mset_mset]; rfl
  first | rw [em] | skip
  obtain ⟨H0, hH0⟩ : ∃ H0, H0 = headLines B.people B.versions B.last := ⟨_, rfl⟩
  rw [← hH0]
  have hH0l : H0.length = 3 := by rw [hH0]; rfl
  clear em e0
  subst hR
  refine seq_step fun R hR => ?_
  refine for_step fun G hG => ?_
  unfold iLst
  walk_at "hbr"
  refine sFld_bk (hbq _) rfl rfl ?_
  refine ⟨_, (hbq _).mt, fun i Γ m' => m' = mset m q (.lst ((H0 ++ (B.meetings.take i).map fun x => (Deed.meet x).line).map .str)) ∧ ∃ x2 x3 x4 x5 x6 x7 x8 x9 x10 x11 x12, Γ = [some (.ref k.p), some (.ref q), x2, x3, x4, x5, x6, x7, x8, x9, x10, x11, x12], ⟨by simp, _, _, _, _, _, _, _, _, _, _, _, rfl⟩, ?_, ?_, ?_⟩
  · rintro i Γ m' _ ⟨rfl, _⟩; exact (hbq _).mt
  · rintro i Γ m' hi ⟨rfl, x2, x3, x4, x5, x6, x7, x8, x9, x10, x11, x12, rfl⟩
    rw [List.length_map] at hi
    rw [dgetM hi]
    have ok := hg.mt _ (List.getElem_mem hi)
    rw [hG]
    clear hG
    have hl2 : ((H0 ++ (B.meetings.take i).map fun x => (Deed.meet x).line).map D.str).length < 1000000 := by
      simp only [List.length_map, List.length_append, List.length_take]; omega
    have hst := mset_lst (m := m) (q := q) (map_take_succ (fun x => (Deed.meet x).line) hi H0)
    generalize B.meetings[i] = y at *
    obtain ⟨yd, y1, y2, ys⟩ := y
    obtain ⟨o1, o2, o3⟩ := ok
    have o1 : yd ≤ 30 := o1
    have q1 := num_len o1
    have q2 := o2.len
    have q3 := o3.len
    have q2 : y1.length ≤ 8 := q2
    have q3 : y2.length ≤ 8 := q3
    have e1 : ("meet" : Str).length = 4 := by decide +kernel
    have e2 : ("maybe" : Str).length = 5 := by decide +kernel
    have q1' : (Str.ofString (toString (yd : Int))).length ≤ 4 := q1
    have ej := j4 (if ys = true then "meet" else "maybe") (numS yd) y1 y2
    simp only [Mt.d]
    cases ys
    · walk_at "hbr"
      simp only [Str.length_append]
      refine ⟨⟨_, mset_same⟩, by omega, by omega, by omega, by omega, by omega, by omega, by omega, by omega, by omega, by omega, by omega, _, mset_same, hl2, ?_, _, _, _, _, _, _, _, _, _, _, _, rfl⟩
      exact (congrArg (fun z => mset (mset m q _) q (.lst (_ ++ [.str z]))) ej).trans hst
    · walk_at "hbr"
      simp only [Str.length_append]
      refine ⟨⟨_, mset_same⟩, by omega, by omega, by omega, by omega, by omega, by omega, by omega, by omega, by omega, by omega, by omega, _, mset_same, hl2, ?_, _, _, _, _, _, _, _, _, _, _, _, rfl⟩
      exact (congrArg (fun z => mset (mset m q _) q (.lst (_ ++ [.str z]))) ej).trans hst
  rintro Γ m' ⟨rfl, x2, x3, x4, x5, x6, x7, x8, x9, x10, x11, x12, rfl⟩
  rw [List.length_map, List.take_length]
  clear hG
  subst hR
  obtain ⟨H1, hH1⟩ : ∃ H1, H1 = H0 ++ B.meetings.map fun x => (Deed.meet x).line := ⟨_, rfl⟩
  rw [← hH1]
  have hH1l : H1.length ≤ 30 := by rw [hH1]; simp; omega
  refine seq_step fun R hR => ?_
  refine for_step fun G hG => ?_
  unfold iLst
  walk_at "hbr"
  refine sFld_bk (hbq _) rfl rfl ?_
  refine ⟨_, (hbq _).tn, fun i Γ m' => m' = mset m q (.lst ((H1 ++ (B.turns.take i).map fun x => (Deed.turn x).line).map .str)) ∧ ∃ x2 x3 x4 x5 x6 x7 x8 x9 x10 x11 x12, Γ = [some (.ref k.p), some (.ref q), x2, x3, x4, x5, x6, x7, x8, x9, x10, x11, x12], ⟨by simp, _, _, _, _, _, _, _, _, _, _, _, rfl⟩, ?_, ?_, ?_⟩
  · rintro i Γ m' _ ⟨rfl, _⟩; exact (hbq _).tn
  · rintro i Γ m' hi ⟨rfl, x2, x3, x4, x5, x6, x7, x8, x9, x10, x11, x12, rfl⟩
    rw [List.length_map] at hi
    rw [dgetM hi]
    have ok := hg.tn _ (List.getElem_mem hi)
    rw [hG]
    clear hG
    have hl2 : ((H1 ++ (B.turns.take i).map fun x => (Deed.turn x).line).map D.str).length < 1000000 := by
      simp only [List.length_map, List.length_append, List.length_take]; omega
    have hst := mset_lst (m := m) (q := q) (map_take_succ (fun x => (Deed.turn x).line) hi H1)
    generalize B.turns[i] = y at *
    obtain ⟨o1, o2, o3⟩ := ok
    have q1 := o1.len
    have q2 := o2.len
    have q3 := o3.len
    have ej := j4t "turn" "turn " y.who y.old y.new w4
    simp only [Tn.d]
    walk_at "hbr"
    simp only [Str.length_append]
    refine ⟨⟨_, mset_same⟩, by omega, by omega, by omega, by omega, by omega, by omega, by omega, by omega, by omega, _, mset_same, hl2, ?_, _, _, _, _, _, _, _, _, _, _, _, rfl⟩
    exact (congrArg (fun z => mset (mset m q _) q (.lst (_ ++ [.str z]))) ej).trans hst
  rintro Γ m' ⟨rfl, x2, x3, x4, x5, x6, x7, x8, x9, x10, x11, x12, rfl⟩
  rw [List.length_map, List.take_length]
  clear hG
  subst hR
  obtain ⟨H2, hH2⟩ : ∃ H2, H2 = H1 ++ B.turns.map fun x => (Deed.turn x).line := ⟨_, rfl⟩
  rw [← hH2]
  have hH2l : H2.length ≤ 40 := by rw [hH2]; simp; omega
  refine seq_step fun R hR => ?_
  refine for_step fun G hG => ?_
  unfold iLst
  walk_at "hbr"
  refine sFld_bk (hbq _) rfl rfl ?_
  obtain ⟨fs, hfs, hp⟩ := hb.fa
  have hfl := paired_len hp
  have hfq : ∀ o, (mset m q o) k.f = some (.lst fs) := fun o => (mset_ne (hqk _ inF)).trans hfs
  refine ⟨fs, hfq _, fun i Γ m' => m' = mset m q (.lst ((H2 ++ (B.facts.take i).map fun x => (Deed.fact x).line).map .str)) ∧ ∃ x2 x3 x4 x5 x6 x7 x8 x9 x10 x11 x12, Γ = [some (.ref k.p), some (.ref q), x2, x3, x4, x5, x6, x7, x8, x9, x10, x11, x12], ⟨by simp, _, _, _, _, _, _, _, _, _, _, _, rfl⟩, ?_, ?_, ?_⟩
  · rintro i Γ m' _ ⟨rfl, _⟩; exact hfq _
  · rintro i Γ m' hi ⟨rfl, x2, x3, x4, x5, x6, x7, x8, x9, x10, x11, x12, rfl⟩
    have hi' : i < B.facts.length := by omega
    obtain ⟨c, g1, g2⟩ := paired_at' hp hi'
    have e : dget fs i = c := by unfold dget; rw [List.getD_eq_getElem?_getD, g1]; rfl
    rw [e]
    obtain ⟨o1, o2, o3⟩ := hg.fa _ (List.getElem_mem hi')
    rw [hG]
    clear hG
    have hl2 : ((H2 ++ (B.facts.take i).map fun x => (Deed.fact x).line).map D.str).length < 1000000 := by
      simp only [List.length_map, List.length_append, List.length_take]; omega
    have hst := mset_lst (m := m) (q := q) (map_take_succ (fun x => (Deed.fact x).line) hi' H2)
    generalize B.facts[i] = rs at *
    have q1 := fact_len o2 o3
    have ej := f_fact (Txt.join " or " (rs.map rowText))
    obtain ⟨xs, hxs, hcl⟩ := g2
    unfold rhoStrO
    walk_at "hbr"
    refine ⟨⟨_, mset_same⟩, isO_cs ⟨xs, hxs, hcl⟩, xs, rs, by rw [hxs], hcl, by omega, o3, _, rfl, by omega, _, mset_same, hl2, ?_, _, _, _, _, _, _, _, _, _, _, _, rfl⟩
    exact (congrArg (fun z => mset (mset m q _) q (.lst (_ ++ [.str z]))) ej).trans hst
  rintro Γ m' ⟨rfl, x2, x3, x4, x5, x6, x7, x8, x9, x10, x11, x12, rfl⟩
  rw [hfl, List.take_length]
  clear hG
  subst hR
  obtain ⟨H3, hH3⟩ : ∃ H3, H3 = H2 ++ B.facts.map fun x => (Deed.fact x).line := ⟨_, rfl⟩
  rw [← hH3]
  have hH3l : H3.length ≤ 50 := by rw [hH3]; simp; omega
  refine seq_step fun R hR => ?_
  refine for_step fun G hG => ?_
  unfold iZipT
  walk_at "hbr"
  refine sFld_bk (hbq _) rfl rfl ?_
  have hl4 := hb.few.2.2.2.2
  refine ⟨_, _, rfl, by rw [List.length_map, hl4]; rfl, fun i Γ m' => m' = mset m q (.lst ((H3 ++ (List.range i).map fun i => (Deed.limit i (B.limits.getD i none)).line).map .str)) ∧ ∃ x2 x3 x4 x5 x6 x7 x8 x9 x10 x11 x12, Γ = [some (.ref k.p), some (.ref q), x2, x3, x4, x5, x6, x7, x8, x9, x10, x11, x12], ⟨by simp, _, _, _, _, _, _, _, _, _, _, _, rfl⟩, fun _ _ _ _ _ => trivial, ?_, ?_⟩
  · rintro i Γ m' hi ⟨rfl, x2, x3, x4, x5, x6, x7, x8, x9, x10, x11, x12, rfl⟩
    have hi : i < 4 := hi
    obtain ⟨c, g1, g2⟩ := hg.li i hi
    have e1 : dget [D.str "begins", .str "held", .str "turns", .str "tellers"] i = .str (kindS i) := by
      match i, hi with
      | 0, _ => rfl
      | 1, _ => rfl
      | 2, _ => rfl
      | 3, _ => rfl
    have e2 : dget (B.limits.map oN) i = oN c := by unfold dget; rw [List.getD_eq_getElem?_getD, List.getElem?_map, g1]; rfl
    have e3 : B.limits.getD i none = c := by rw [List.getD_eq_getElem?_getD, g1]; rfl
    have hl2 : ((H3 ++ (List.range i).map fun i => (Deed.limit i (B.limits.getD i none)).line).map D.str).length < 1000000 := by
      simp only [List.length_map, List.length_append, List.length_range]; omega
    have hst := mset_lst (m := m) (q := q) (xs := H3 ++ (List.range i).map fun i => (Deed.limit i (B.limits.getD i none)).line) (ys := H3 ++ (List.range (i + 1)).map fun i => (Deed.limit i (B.limits.getD i none)).line) (z := (Deed.limit i c).line) (by rw [List.range_succ, List.map_append, List.append_assoc, List.map_cons, e3]; rfl)
    obtain ⟨d, hd⟩ : ∃ d, d = oN c := ⟨_, rfl⟩
    rw [e1, e2, ← hd, hG]
    clear hG
    walk_at "hbr"
    exact ⟨⟨_, mset_same⟩, i, c, by rw [hd], hi, g2, _, mset_same, hl2, hst, _, _, _, _, _, _, _, _, _, _, _, rfl⟩
  rintro Γ m' ⟨rfl, x2, x3, x4, x5, x6, x7, x8, x9, x10, x11, x12, rfl⟩
  clear hG
  subst hR
  have hlines : H3 ++ (List.range 4).map (fun i => (Deed.limit i (B.limits.getD i none)).line) = B.lines := by
    rw [hH3, hH2, hH1, hH0]; rfl
  have hlines' : H3 ++ (List.range [D.str "begins", .str "held", .str "turns", .str "tellers"].length).map (fun i => (Deed.limit i (B.limits.getD i none)).line) = B.lines := hlines
  obtain ⟨z1, z2⟩ := lines_len hg
  have z3 := sum_le z1
  have z4 : ("
" : Str).length = 1 := by decide +kernel
  walk_at "hbr"
  refine ⟨B.lines, ?_, by rw [z4]; omega, m, Le.new Le.refl hq, h⟩
  rw [mset_same]
  first | rw [hlines'] | rw [hlines]
end
set_option Elab.async false
set_option linter.all false
set_option maxRecDepth 100000
set_option maxHeartbeats 4000000
section
open PySem L2 TL
variable {K : PySem.W.Frag} {a : Ad} {ds : List D} {m m' m'' : Mem} {P : PD} {k : BkA} {B : Bk}
theorem joinL_free {s : Nat} {S : List Nat} (hs : s ∉ S) : ∀ {ps : List (List Nat)}, (∀ p ∈ ps, s ∉ p) → s ∉ joinL S ps
  | [], _ => by simp [joinL]
  | [p], h => h p (by simp)
  | p :: q :: r, h => by
    show s ∉ p ++ (S ++ joinL S (q :: r))
    have ih := joinL_free hs (ps := q :: r) fun x hx => h x (List.mem_cons_of_mem _ hx)
    have := h p (by simp)
    simp only [List.mem_append, not_or]
    exact ⟨this, hs, ih⟩
theorem join_free {ws : List Str} (h : ∀ w ∈ ws, (10 : Nat) ∉ tl w) : (10 : Nat) ∉ tl (Txt.join " " ws) := by
  rw [tl_joinW]
  refine joinL_free (by decide) fun p hp => ?_
  obtain ⟨w, hw, rfl⟩ := List.mem_map.mp hp
  exact h w hw
theorem name_nl {z : Str} (h : NameOK z) : (10 : Nat) ∉ tl z := name_free h (by decide +kernel) (by decide +kernel)
theorem deed_nl {d : Deed} (h : d.ok) : (10 : Nat) ∉ tl d.line := by
  cases d with
  | meet x =>
    obtain ⟨xd, x1, x2, xs⟩ := x
    obtain ⟨h1, h2, h3⟩ := h
    refine join_free (ws := [(if xs then "meet" else "maybe" : Str), numS xd, x1, x2]) fun v hv => ?_
    simp only [List.mem_cons, List.not_mem_nil, or_false] at hv
    rcases hv with rfl | rfl | rfl | rfl
    · cases xs <;> decide +kernel
    · exact num_free (by omega)
    · exact name_nl h2
    · exact name_nl h3
  | turn x =>
    obtain ⟨h1, h2, h3⟩ := h
    refine join_free (ws := [("turn" : Str), x.who, x.old, x.new]) fun v hv => ?_
    simp only [List.mem_cons, List.not_mem_nil, or_false] at hv
    rcases hv with rfl | rfl | rfl | rfl
    · decide +kernel
    · exact name_nl h1
    · exact name_nl h2
    · exact name_nl h3
  | fact rs =>
    obtain ⟨h0, h3, hr⟩ := h
    refine join_free (ws := [("fact" : Str), Txt.join " or " (rs.map rowText)]) fun v hv => ?_
    simp only [List.mem_cons, List.not_mem_nil, or_false] at hv
    rcases hv with rfl | rfl
    · decide +kernel
    · rw [join_eq, tl_join]
      refine joinL_free (by decide +kernel) fun p hp => ?_
      obtain ⟨w, hw, rfl⟩ := List.mem_map.mp hp
      obtain ⟨r, hr', rfl⟩ := List.mem_map.mp hw
      exact join_free (row_all (Q := fun w => (10 : Nat) ∉ tl w) (by decide +kernel) (by decide +kernel) (fun z hz => name_nl hz) (fun n hn => num_free (by omega)) (hr r hr'))
  | limit i c =>
    obtain ⟨hi, hc⟩ := h
    have hk : ∀ i ∈ List.range 4, (10 : Nat) ∉ tl (kindS i) := by decide +kernel
    refine join_free (ws := [("limit" : Str), kindS i, limS c]) fun v hv => ?_
    simp only [List.mem_cons, List.not_mem_nil, or_false] at hv
    rcases hv with rfl | rfl | rfl
    · decide +kernel
    · exact hk i (List.mem_range.mpr hi)
    · cases c with
      | none => decide +kernel
      | some n => exact num_free (by omega)
theorem head_nl {pp vs : List Str} {last : Nat} (h : HeadOK pp vs last) : ∀ z ∈ headLines pp vs last, (10 : Nat) ∉ tl z := by
  obtain ⟨h1, h2, h3, h4, h5, h6, h7, h8, h9, h10⟩ := h
  intro z hz
  simp only [headLines, List.mem_cons, List.not_mem_nil, or_false] at hz
  rcases hz with rfl | rfl | rfl
  · refine join_free fun v hv => ?_
    rcases List.mem_cons.mp hv with rfl | hv
    · decide +kernel
    · exact name_nl (h1 v hv)
  · refine join_free fun v hv => ?_
    rcases List.mem_cons.mp hv with rfl | hv
    · decide +kernel
    · exact name_nl (h5 v hv)
  · refine join_free fun v hv => ?_
    rcases List.mem_cons.mp hv with rfl | hv
    · decide +kernel
    · rw [List.mem_singleton.mp hv]; exact num_free (by omega)
theorem apps_succ {dds : List Deed} {i : Nat} (hi : i < dds.length) : B.apps (dds.take (i + 1)) = (B.apps (dds.take i)).app dds[i] := by
  unfold Bk.apps
  rw [take_succ' hi, List.foldl_append]; rfl
theorem app_np (B : Bk) (d : Deed) : (B.app d).np = B.np + 1 := by cases d <;> rfl
theorem runs_at : ∀ {dds : List Deed} {B : Bk} {i : Nat} (hi : i < dds.length), RunsOK B dds → B.fine → (B.apps (dds.take i)).takes dds[i] ∧ dds[i].ok ∧ (B.apps (dds.take i)).fine ∧ (B.apps (dds.take i)).np = B.np + i
  | [], _, i, hi, _, _ => by simp at hi
  | d :: dds, B, 0, hi, hr, hf => ⟨hr.1, hr.2.1, hf, rfl⟩
  | d :: dds, B, i + 1, hi, hr, hf => by
    have hi' : i < dds.length := by simpa using hi
    obtain ⟨q1, q2, q3, q4⟩ := runs_at (dds := dds) (B := B.app d) (i := i) hi' hr.2.2 (fine_app hf hr.2.1)
    refine ⟨q1, q2, q3, ?_⟩
    show ((B.app d).apps (dds.take i)).np = _
    rw [q4, app_np]; omega
theorem runs_ok : ∀ {dds : List Deed} {B : Bk}, RunsOK B dds → ∀ d ∈ dds, d.ok
  | [], _, _, _, h => by cases h
  | e :: dds, B, hr, d, h => by
    rcases List.mem_cons.mp h with rfl | h
    · exact hr.2.1
    · exact runs_ok hr.2.2 d h
theorem start_fine (pp vs : List Str) (last : Nat) : (Bk.start pp vs last).fine := ⟨fun y hy => (by cases hy), fun y hy => (by cases hy)⟩
def readB (pp vs : List Str) (last : Nat) (dds : List Deed) : Bk := { (Bk.start pp vs last).apps dds with np := 0 }
def T_Book_read (a : Ad) : PT1 := fun ds m P => ∃ pp vs last dds, ds = [.ref (a.g "Book"), .str (Txt.join "\n" (headLines pp vs last ++ dds.map Deed.line))] ∧ HeadOK pp vs last ∧ RunsOK (Bk.start pp vs last) dds ∧ dds.length ≤ 100 ∧
  ∀ k m', New k m → BookAt a m' k (readB pp vs last dds) → Fr k m m' → P (.ref k.p) m'
theorem p_Book_read (h : T_Book_read a ds m P) : s_Book_read K a T_read_names T_read_last T_names_refused (T_Book_init a) (T_Book__do a) (T_read_line a) (ends1 P) (startG N_Book_read ds) m := by
  obtain ⟨pp, vs, last, dds, rfl, hh, hr, hl, h⟩ := h
  have hdo := runs_ok hr
  have hnl : ∀ z ∈ headLines pp vs last ++ dds.map Deed.line, (10 : Nat) ∉ tl z := fun z hz => by
    rcases List.mem_append.mp hz with hz | hz
    · exact head_nl hh z hz
    · obtain ⟨d, hd, rfl⟩ := List.mem_map.mp hz; exact deed_nl (hdo d hd)
  have hll : ∀ z ∈ headLines pp vs last ++ dds.map Deed.line, z.length ≤ 500 := fun z hz => by
    rcases List.mem_append.mp hz with hz | hz
    · exact head_len hh z hz
    · obtain ⟨d, hd, rfl⟩ := List.mem_map.mp hz; exact deed_len (hdo d hd)
  have hsp := split_nl (by simp [headLines]) hnl
  have hlen : (Txt.join "\n" (headLines pp vs last ++ dds.map Deed.line)).length ≤ 1000000 := by
    have h1 := join_le (y := "\n") hll
    have h2 : ("\n" : Str).length = 1 := by decide +kernel
    rw [h2] at h1
    have : (headLines pp vs last ++ dds.map Deed.line).length * (500 + 1) ≤ 103 * 501 := Nat.mul_le_mul_right _ (by simp [headLines]; omega)
    omega
  have hh' := hh
  obtain ⟨h1, h2, h3, h4, h5, h6, h7, h8, h9, h10⟩ := hh'
  have wp : Wd "people" := ⟨by decide +kernel, by decide +kernel⟩
  have wv : Wd "versions" := ⟨by decide +kernel, by decide +kernel⟩
  generalize hz : Txt.join "\n" (headLines pp vs last ++ dds.map Deed.line) = z at *
  unfold s_Book_read
  refine seq_step fun R hR => ?_
  walk_at "hbr"
  refine ⟨by decide +kernel, hlen, ?_⟩
  rw [hsp]
  obtain ⟨ls, hls⟩ : ∃ ls, ls = (headLines pp vs last ++ dds.map Deed.line).map D.str := ⟨_, rfl⟩
  rw [← hls]
  have l0 : ls[0]? = some (.str (Txt.join " " (("people" : Str) :: pp))) := by rw [hls]; rfl
  have l1 : ls[1]? = some (.str (Txt.join " " (("versions" : Str) :: vs))) := by rw [hls]; rfl
  have l2 : ls[2]? = some (.str (Txt.join " " [("last" : Str), numS last])) := by rw [hls]; rfl
  have lln : ls.length = 3 + dds.length := by rw [hls]; simp [headLines]; omega
  have lcut : cutD ls (some 3) none = dds.map fun d => .str d.line := by rw [cut3, hls]; simp [headLines]
  clear hls
  subst hR
  refine seq_step fun R hR => ?_
  walk_at "hbr"
  refine ⟨_, l0, "people", pp, rfl, wp, h3, by omega, h1, ?_⟩
  subst hR
  refine seq_step fun R hR => ?_
  refine if_step fun S U hS hU => ?_
  walk_at "hbr"
  simp only [isNon]
  rw [hU]
  clear hS hU
  walk_at "hbr"
  subst hR
  refine seq_step fun R hR => ?_
  walk_at "hbr"
  subst hR
  refine seq_step fun R hR => ?_
  refine if_step fun S U hS hU => ?_
  walk_at "hbr"
  rw [decide_eq_true (by omega)]
  walk_at "hbr"
  rw [hS]
  clear hS hU
  walk_at "hbr"
  refine ⟨_, l1, "versions", vs, rfl, wv, h7, by omega, h5, ?_⟩
  subst hR
  refine seq_step fun R hR => ?_
  refine if_step fun S U hS hU => ?_
  walk_at "hbr"
  simp only [isNon]
  rw [hU]
  clear hS hU
  walk_at "hbr"
  subst hR
  refine seq_step fun R hR => ?_
  walk_at "hbr"
  subst hR
  refine seq_step fun R hR => ?_
  refine if_step fun S U hS hU => ?_
  walk_at "hbr"
  rw [decide_eq_true (by omega)]
  walk_at "hbr"
  rw [hS]
  clear hS hU
  walk_at "hbr"
  refine ⟨_, l2, last, rfl, h10, ?_⟩
  subst hR
  refine seq_step fun R hR => ?_
  refine if_step fun S U hS hU => ?_
  walk_at "hbr"
  rw [hU]
  clear hS hU
  walk_at "hbr"
  subst hR
  refine seq_step fun R hR => ?_
  refine if_step fun S U hS hU => ?_
  walk_at "hbr"
  refine ⟨pp, 8, rfl, h1, h2, h3, h4, by decide, ?_⟩
  walk_at "hbr"
  rw [hU]
  clear hS hU
  walk_at "hbr"
  subst hR
  refine seq_step fun R hR => ?_
  refine if_step fun S U hS hU => ?_
  walk_at "hbr"
  refine ⟨vs, 3, rfl, h5, h6, h7, h8, by decide, ?_⟩
  walk_at "hbr"
  rw [hU]
  clear hS hU
  walk_at "hbr"
  subst hR
  refine seq_step fun R hR => ?_
  refine if_step fun S U hS hU => ?_
  walk_at "hbr"
  rw [decide_eq_true (by omega)]
  walk_at "hbr"
  rw [decide_eq_true (by omega)]
  walk_at "hbr"
  rw [hU]
  clear hS hU
  walk_at "hbr"
  subst hR
  refine seq_step fun R hR => ?_
  unfold sMakeK
  walk_at "hbr"
  intro p hp
  refine ⟨p, pp, vs, last, rfl, mset_same, hh, fun k m1 hkp hb1 hnew hfr => ⟨rfl, .ref p, m1, Gh.refl, ?_⟩⟩
  subst hkp
  have hN : New k m := fun x hx => by
    by_cases e : x = k.p
    · rw [e]; exact hp
    · have := hnew x hx e
      rw [mset_ne e] at this; exact this
  have hF : Fr k m m1 := fun x hx => by
    rw [hfr x hx, mset_ne (fun e => hx (by rw [e]; exact inP))]
  subst hR
  refine seq_step fun R hR => ?_
  refine for_step fun G hG => ?_
  unfold iEnumL
  walk_at "hbr"
  rw [lcut]
  refine ⟨_, _, rfl, rfl, fun i Γ m' => BookAt a m' k ((Bk.start pp vs last).apps (dds.take i)) ∧ Fr k m m' ∧ ∃ x y, Γ = [some (.ref (a.g "Book")), some (.str z), some (.lst ls), some (.lst (pp.map .str)), some (.lst (vs.map .str)), some (.int last), some (.ref k.p), x, y], ⟨hb1, hF, _, _, rfl⟩, fun _ _ _ _ _ => rfl, ?_, ?_⟩
  · rintro i Γ m' hi ⟨hb, hf, x, y, rfl⟩
    rw [List.length_map] at hi
    rw [dgetM hi, hG]
    clear hG
    obtain ⟨r1, r2, r3, r4⟩ := runs_at hi hr (start_fine pp vs last)
    have hs := apps_succ (B := Bk.start pp vs last) hi
    have r4 : ((Bk.start pp vs last).apps (dds.take i)).np = 0 + i := r4
    walk_at "hbr"
    refine meth_bk hb rfl rfl ?_
    refine ⟨dds[i], rfl, r2, ?_⟩
    exact ⟨k, _, _, rfl, hb, r1, r2, r3, by omega, fun m2 r hb2 hf2 => ⟨by rw [hs]; exact hb2, hf.trans hf2, _, _, rfl⟩⟩
  · rintro Γ m' ⟨hb, hf, x, y, rfl⟩
    rw [List.length_map, List.take_length] at hb
    clear hG
    subst hR
    obtain ⟨ps, hq, hpl⟩ := hb.pa
    unfold sClear
    walk_at "hbr"
    refine sFld_bk hb rfl rfl ?_
    refine ⟨ps, hq, endN ?_⟩
    exact h k _ hN (hb.setQ (ps := []) (by simp)) (hf.trans (Fr.set inQ))
end
set_option Elab.async false
set_option linter.all false
set_option maxRecDepth 100000
set_option maxHeartbeats 4000000
section
open PySem L2 TL
variable {K : PySem.W.Frag} {a : Ad} {ds : List D} {m m' m'' : Mem} {P : PD} {k : BkA} {B : Bk}
/-! the law's box -/
def T__law_bool : PT1 := fun ds m P => ∃ x y : Bool, ds = [.bl x, .bl y] ∧ P (.bl (decide (x = y))) m
theorem p__law_bool (Y : Ty K a) (h : T__law_bool ds m P) : s__law_bool K a (ends1 P) (startG N__law_bool ds) m := by
  obtain ⟨x, y, rfl, h⟩ := h
  unfold s__law_bool
  walk_at "hbr"
  refine ⟨.type "bool", true, rfl, Y.kb, ?_⟩
  walk_at "hbr"
  exact endN h
def T__law_box : PT1 := fun ds m P => ∃ ns : List Int, ds = [.scr ns] ∧ ∀ b m', m b = none → BxAt m' b → (∀ x, x ≠ b → m' x = m x) → P (.ref b) m'
theorem p__law_box (h : T__law_box ds m P) : s__law_box K a (ends1 P) (startG N__law_box ds) m := by
  obtain ⟨ns, rfl, h⟩ := h
  unfold s__law_box sLc iLst
  walk_at "hbr"
  unfold slD
  dsimp only
  have e : cutD (ns.map D.int) none (some 63) = (ns.take 63).map .int := by rw [show (63 : Int) = ((63 : Nat) : Int) from rfl, cut_to, List.map_take]
  rw [e]
  have hxl : (ns.take 63).length ≤ 63 := by rw [List.length_take]; omega
  generalize ns.take 63 = xs at *
  refine ⟨_, rfl, fun _ => true, fun i => .int (xs.getD i 0), by rw [List.length_map]; omega, fun i p out hi hp => ⟨rfl, rfl, rfl, fun _ => ?_⟩, fun _ _ _ => rfl, ?_⟩
  · rw [List.length_map] at hi
    rw [dgetM hi]
    walk_at "hbr"
    simp [List.getD, hi]
  · refine ⟨by decide, fun b hb => endN ?_⟩
    rw [filter_all, List.length_map, map_range D.int fun i hi => by simp [List.getD, hi]]
    exact h b _ hb ⟨⟨0, 0, 0, xs⟩, mset_same, Int.le_refl 0, Int.le_refl 0, by show xs.length ≤ 100; omega⟩ fun x hx => mset_ne hx
def T__law_take : PT1 := fun ds m P => ∃ (b : Addr) (n : Nat), ds = [.ref b, .int n] ∧ BxAt m b ∧ 0 < n ∧ n ≤ 1000 ∧ ∀ (r : Nat) m', r < n → Drawn b m m' → P (.int r) m'
theorem cdiv {n : Nat} (h : 0 < n) (h2 : n ≤ 1000) : CDivW 0 (n : Int) := by
  refine ⟨by omega, ?_⟩
  have : ((n : Int).natAbs).log2 < 10 := by
    rw [Int.natAbs_natCast, Nat.log2_lt (by omega)]; omega
  omega
theorem p__law_take (h : T__law_take ds m P) : s__law_take K a (ends1 P) (startG N__law_take ds) m := by
  obtain ⟨b, n, rfl, ⟨x, hx, h0, hi, hn⟩, hn0, hn1, h⟩ := h
  unfold s__law_take
  refine seq_step fun R hR => ?_
  have rest : ∀ (x' : Bx) (y2 y3 : Option D), 0 ≤ x'.v0 → 0 ≤ x'.i → x'.ns.length ≤ 100 → R [some (.ref b), some (.int n), y2, y3] (mset m b (.lst x'.ds)) := by
    intro x' y2 y3 g0 g1 g2
    rw [hR]
    clear hR
    have dr : ∀ x'' : Bx, 0 ≤ x''.v0 → 0 ≤ x''.i → x''.ns.length ≤ 100 → Drawn b m (mset m b (.lst x''.ds)) := fun x'' z0 z1 z2 => ⟨⟨x'', mset_same, z0, z1, z2⟩, fun y hy => mset_ne hy⟩
    refine seq_step fun R hR => ?_
    refine if_step fun S U hS hU => ?_
    walk_at "hbr"
    refine ⟨_, mset_same, ?_⟩
    simp only [Bx.ds]
    walk_at "hbr"
    by_cases c : (0 : Int) < x'.v0
    · rw [decide_eq_true c]
      walk_at "hbr"
      rw [hS]
      clear hS hU hR
      refine seq_step fun R hR => ?_
      walk_at "hbr"
      refine ⟨_, mset_same, ?_⟩
      walk_at "hbr"
      refine ⟨by omega, ?_⟩
      subst hR
      refine seq_step fun R hR => ?_
      unfold sSubSet
      walk_at "hbr"
      refine ⟨_, mset_same, ?_⟩
      walk_at "hbr"
      refine ⟨cdiv hn0 hn1, b, _, 0, rfl, rfl, mset_same, by simp, ?_⟩
      rw [mset_mset]
      subst hR
      walk_at "hbr"
      have hm : 0 ≤ x'.v0 % (n : Int) := Int.emod_nonneg _ (by omega)
      have hm2 : x'.v0 % (n : Int) < n := Int.emod_lt_of_pos _ (by omega)
      have := h (x'.v0 % (n : Int)).toNat _ (by omega) (dr ⟨x'.v0 / n, x'.i, x'.v2, x'.ns⟩ (Int.ediv_nonneg (by omega) (by omega)) g1 g2)
      rw [Int.toNat_of_nonneg hm] at this
      exact endN this
    · rw [decide_eq_false c]
      walk_at "hbr"
      rw [hU]
      clear hS hU
      walk_at "hbr"
      subst hR
      refine seq_step fun R hR => ?_
      unfold sSubSet
      walk_at "hbr"
      refine ⟨_, mset_same, ?_⟩
      walk_at "hbr"
      refine ⟨by decide, by decide, b, _, 2, rfl, rfl, mset_same, by simp, ?_⟩
      rw [mset_mset]
      subst hR
      walk_at "hbr"
      refine ⟨_, mset_same, ?_⟩
      walk_at "hbr"
      refine ⟨by decide, by decide, ⟨by decide, by decide⟩, by omega, ?_⟩
      generalize hw : x'.v2 * 48271 % 2147483647 = w
      generalize hv : w * 69621 % 2147483629 / 16 = v
      have hm : 0 ≤ v % (n : Int) := Int.emod_nonneg _ (by omega)
      have hm2 : v % (n : Int) < n := Int.emod_lt_of_pos _ (by omega)
      have := h (v % (n : Int)).toNat _ (by omega) (dr ⟨x'.v0, x'.i, w, x'.ns⟩ g0 g1 g2)
      rw [Int.toNat_of_nonneg hm] at this
      exact endN this
  clear hR
  refine if_step fun S U hS hU => ?_
  have skip : U [some (.ref b), some (.int n), none, none] m := by
    rw [hU]
    have := rest x none none h0 hi hn
    rw [mset_self hx] at this
    exact this
  clear hU
  walk_at "hbr"
  refine ⟨_, hx, ?_⟩
  simp only [Bx.ds]
  walk_at "hbr"
  by_cases c : x.v0 = 0
  · rw [decide_eq_true c]
    walk_at "hbr"
    refine ⟨_, hx, ?_⟩
    simp only [Bx.ds]
    walk_at "hbr"
    refine ⟨_, hx, ?_⟩
    simp only [Bx.ds]
    walk_at "hbr"
    rw [List.length_map]
    by_cases c2 : x.i < (x.ns.length : Int)
    · rw [decide_eq_true c2]
      walk_at "hbr"
      rw [hS]
      clear hS skip
      have hj : x.i.toNat < x.ns.length := by omega
      have hz : (x.ns.map D.int)[x.i.toNat]? = some (.int x.ns[x.i.toNat]) := by rw [List.getElem?_map, List.getElem?_eq_getElem hj]; rfl
      generalize x.ns[x.i.toNat] = z at *
      refine seq_step fun R hR => ?_
      walk_at "hbr"
      refine ⟨_, hx, ?_⟩
      simp only [Bx.ds]
      walk_at "hbr"
      refine ⟨_, hx, ?_⟩
      simp only [Bx.ds]
      walk_at "hbr"
      refine ⟨x.i.toNat, _, _, by omega, rfl, hz, ?_⟩
      have hc : 0 ≤ (if z < 0 then -z else z) := by split <;> omega
      unfold rhoAbs
      dsimp only
      generalize (if z < 0 then -z else z) = cell at *
      subst hR
      refine seq_step fun R hR => ?_
      unfold sSubSet
      walk_at "hbr"
      refine ⟨_, hx, ?_⟩
      simp only [Bx.ds]
      walk_at "hbr"
      refine ⟨b, _, 1, rfl, rfl, hx, by simp [Bx.ds], ?_⟩
      subst hR
      refine if_step fun S U hS hU => ?_
      walk_at "hbr"
      refine ⟨⟨by decide, by decide, by decide⟩, ?_⟩
      by_cases c3 : (10 : Int) ^ Int.toNat 18 ≤ cell
      · rw [decide_eq_true c3]
        walk_at "hbr"
        rw [hS]
        walk_at "hbr"
        refine ⟨b, _, 0, rfl, rfl, mset_same, by simp [Bx.ds], ?_⟩
        rw [mset_mset]
        exact rest ⟨cell, x.i + 1, x.v2, x.ns⟩ _ _ hc (by show 0 ≤ x.i + 1; omega) hn
      · rw [decide_eq_false c3]
        walk_at "hbr"
        rw [hU]
        unfold sSubSet
        walk_at "hbr"
        refine ⟨_, mset_same, ?_⟩
        simp only [Bx.ds]
        walk_at "hbr"
        refine ⟨by decide, by decide, ?_⟩
        refine ⟨b, _, 2, rfl, rfl, mset_same, by simp, ?_⟩
        rw [mset_mset]
        exact rest ⟨x.v0, x.i + 1, (x.v2 * 8191 + cell + 1) % 2147483647, x.ns⟩ _ _ h0 (by show 0 ≤ x.i + 1; omega) hn
    · rw [decide_eq_false c2]
      exact skip
  · rw [decide_eq_false c]
    exact skip
end
set_option Elab.async false
set_option linter.all false
set_option maxRecDepth 100000
set_option maxHeartbeats 4000000
section
open PySem L2 TL
variable {K : PySem.W.Frag} {a : Ad} {ds : List D} {m m' m'' : Mem} {P : PD} {k : BkA} {B : Bk}
/-! the law's names -/
def LJ' (j : Nat) : Str := ⟨#[lettersS.cps.toList.getD j 0]⟩
def tails : List Str := ["", "q", "zz", "andy"]
def nm (j p d t : Nat) : Str := ((LJ' j ++ strRep (LJ' j) p) ++ numS d) ++ tails.getD t ""
def ckN (x : Str) (d : Nat) : Bool := decide (x.length ≤ 8) && decide (x ∉ (["any", "end", "none", "not", "or"] : List Str)) && (match x.cps.toList[0]? with | some c => decide (c ∈ lettersS.cps.toList) | none => false) &&
  (x.cps.toList.all fun c => decide (c ∈ lettersS.cps.toList) || decide (c ∈ digitsS.cps.toList)) && decide (x.cps.toList.filter (fun c => decide (c ∈ digitsS.cps.toList)) = [48 + d])
theorem ckN_all : ((List.range 26).all fun j => (List.range 3).all fun p => (List.range 10).all fun d => (List.range 4).all fun t => ckN (nm j p d t) d) = true := by decide +kernel
theorem ckN_at {j p d t : Nat} (hj : j < 26) (hp : p < 3) (hd : d < 10) (ht : t < 4) : NameOK (nm j p d t) ∧ (nm j p d t).cps.toList.filter (fun c => decide (c ∈ digitsS.cps.toList)) = [48 + d] := by
  have h := ckN_all
  rw [List.all_eq_true] at h
  have h := h j (List.mem_range.mpr hj)
  rw [List.all_eq_true] at h
  have h := h p (List.mem_range.mpr hp)
  rw [List.all_eq_true] at h
  have h := h d (List.mem_range.mpr hd)
  rw [List.all_eq_true] at h
  have h := h t (List.mem_range.mpr ht)
  generalize nm j p d t = x at *
  unfold ckN at h
  simp only [Bool.and_eq_true, decide_eq_true_eq] at h
  obtain ⟨⟨⟨⟨h1, h2⟩, h3⟩, h4⟩, h5⟩ := h
  refine ⟨⟨h1, h2, ?_, fun c hc => ?_⟩, h5⟩
  · cases e : x.cps.toList[0]? with
    | none => rw [e] at h3; cases h3
    | some c => rw [e] at h3; exact ⟨c, rfl, of_decide_eq_true h3⟩
  · rw [List.all_eq_true] at h4
    have := h4 c hc
    rw [Bool.or_eq_true, decide_eq_true_eq, decide_eq_true_eq] at this
    exact this
theorem nm_inj {j p d t j' p' d' t' : Nat} (hj : j < 26) (hp : p < 3) (hd : d < 10) (ht : t < 4) (hj' : j' < 26) (hp' : p' < 3) (hd' : d' < 10) (ht' : t' < 4) (h : nm j p d t = nm j' p' d' t') : d = d' := by
  have h1 := (ckN_at hj hp hd ht).2
  have h2 := (ckN_at hj' hp' hd' ht').2
  rw [h, h2] at h1
  have := List.head_eq_of_cons_eq h1
  omega
theorem Drawn.refl {b : Addr} (h : BxAt m b) : Drawn b m m := ⟨h, fun _ _ => rfl⟩
theorem Drawn.trans {b : Addr} (h : Drawn b m m') (h' : Drawn b m' m'') : Drawn b m m'' := ⟨h'.1, fun x hx => (h'.2 x hx).trans (h.2 x hx)⟩
theorem BxAt.there {b : Addr} (h : BxAt m b) : m b ≠ none := by
  obtain ⟨x, hx, _⟩ := h
  rw [hx]; simp
theorem BxAt.mset {b q : Addr} {o : MO} (h : BxAt m b) (hq : q ≠ b) : BxAt (HB.mset m q o) b := by
  obtain ⟨x, hx, h1⟩ := h
  exact ⟨x, by rw [mset_ne (Ne.symm hq)]; exact hx, h1⟩
theorem BxAt.mdel {b q : Addr} (h : BxAt m b) (hq : q ≠ b) : BxAt (HB.mdel m q) b := by
  obtain ⟨x, hx, h1⟩ := h
  exact ⟨x, by rw [mdel_ne (Ne.symm hq)]; exact hx, h1⟩
theorem take_do {b : Addr} {n : Nat} {Q : PD} (hb : BxAt m b) (h0 : 0 < n) (h1 : n ≤ 1000) (h : ∀ (r : Nat) m', r < n → Drawn b m m' → Q (.int r) m') : T__law_take [.ref b, .int n] m Q := ⟨b, n, rfl, hb, h0, h1, h⟩
def OneName (s i : Nat) (z : Str) : Prop := ∃ j p t, j < 26 ∧ p < 3 ∧ t < 4 ∧ z = nm j p ((i * 7 + s) % 10) t
def T__law_names : PT1 := fun ds m P => ∃ (b : Addr) (n : Nat), ds = [.ref b, .int n] ∧ BxAt m b ∧ n ≤ 8 ∧ ∀ (xs : List Str) m', xs.length = n → (∀ z ∈ xs, NameOK z) → xs.Nodup → Drawn b m m' → P (.lst (xs.map .str)) m'
theorem p__law_names (h : T__law_names ds m P) : s__law_names K a T__law_take (ends1 P) (startG N__law_names ds) m := by
  obtain ⟨b, n, rfl, hb, hn, h⟩ := h
  unfold s__law_names
  refine seq_step fun R hR => ?_
  walk_at "hbr"
  refine take_do (n := 10) hb (by decide) (by decide) fun s m1 hs d1 => ?_
  subst hR
  refine seq_step fun R hR => ?_
  walk_at "hbr"
  refine take_do (n := 3) d1.1 (by decide) (by decide) fun p m2 hp d2 => ?_
  subst hR
  refine seq_step fun R hR => ?_
  walk_at "hbr"
  refine take_do (n := 2) d2.1 (by decide) (by decide) fun al m3 hal d3 => ?_
  walk_at "hbr"
  have d := (d1.trans d2).trans d3
  subst hR
  generalize decide ((al : Int) = 1) = alike
  refine seq_step fun R hR => ?_
  walk_at "hbr"
  refine ⟨by decide, fun q hq => ?_⟩
  have hqb : q ≠ b := fun e => d.1.there (by rw [← e]; exact hq)
  subst hR
  refine seq_step fun R hR => ?_
  refine for_step fun G hG => ?_
  unfold iRange
  walk_at "hbr"
  refine ⟨n, rfl, by omega, fun i Γ m' => (∃ xs : List Str, xs.length = i ∧ (∀ (i : Nat) z, xs[i]? = some z → OneName s i z) ∧ m' q = some (.lst (xs.map .str))) ∧ BxAt m' b ∧ (∀ x, x ≠ b → x ≠ q → m' x = m x) ∧ ∃ x6 x7 x8, Γ = [some (.ref b), some (.int (n : Nat)), some (.int (s : Nat)), some (.int (p : Nat)), some (.bl alike), some (.ref q), x6, x7, x8],
    ⟨⟨[], rfl, fun _ _ e => by simp at e, mset_same⟩, d.1.mset hqb, fun x h1 h2 => by rw [mset_ne h2]; exact d.2 x h1, _, _, _, rfl⟩, fun _ _ _ _ _ => trivial, ?_, ?_⟩
  · rintro i Γ m' hi ⟨⟨xs, hxl, hxs, hxq⟩, hbx, hfr, x6, x7, x8, rfl⟩
    rw [hG]
    clear hG
    simp only [gN]
    refine seq_step fun R hR => ?_
    walk_at "hbr"
    refine take_do (n := 26) hbx (by decide) (by decide) fun j0 m4 hj0 d4 => ?_
    walk_at "hbr"
    refine ⟨by cases alike <;> decide, ?_⟩
    obtain ⟨j, hj, ej⟩ : ∃ j : Nat, j < 26 ∧ (j0 : Int) * (1 - (if alike = true then 1 else 0)) = j := by
      cases alike
      · exact ⟨j0, hj0, by simp⟩
      · exact ⟨0, by decide, by simp⟩
    rw [ej]
    refine ⟨j, lettersS.cps.toList.getD j 0, rfl, by decide +kernel, ?_, ?_⟩
    · have hl26 : lettersS.cps.toList.length = 26 := by decide +kernel
      have hj' : j < lettersS.cps.toList.length := by omega
      show lettersS.cps.toList[j]? = _
      rw [List.getD_eq_getElem?_getD, List.getElem?_eq_getElem hj']; rfl
    have eL : (⟨#[lettersS.cps.toList.getD j 0]⟩ : Str) = LJ' j := rfl
    rw [eL]
    have hL1 : (LJ' j).length = 1 := rfl
    subst hR
    refine seq_step fun R hR => ?_
    walk_at "hbr"
    refine ⟨by decide, ?_⟩
    refine take_do (n := 4) d4.1 (by decide) (by decide) fun t0 m5 ht0 d5 => ?_
    walk_at "hbr"
    refine ⟨by cases alike <;> decide, ?_⟩
    obtain ⟨t, ht, et⟩ : ∃ t : Nat, t < 4 ∧ (t0 : Int) * (1 - (if alike = true then 1 else 0)) = t := by
      cases alike
      · exact ⟨t0, ht0, by simp⟩
      · exact ⟨0, by decide, by simp⟩
    rw [et]
    walk_at "hbr"
    refine ⟨.str (tails.getD t ""), ?_, ?_⟩
    · match t, ht with
      | 0, _ => rfl
      | 1, _ => rfl
      | 2, _ => rfl
      | 3, _ => rfl
    subst hR
    have d45 := d4.trans d5
    obtain ⟨ok, _⟩ := ckN_at (j := j) (p := p) (d := (i * 7 + s) % 10) (t := t) hj hp (by omega) ht
    have hlen := ok.len
    unfold nm at hlen
    rw [Str.length_append, Str.length_append, Str.length_append] at hlen
    have hmod : ((i : Int) * 7 + (s : Int)) % 10 = (((i * 7 + s) % 10 : Nat) : Int) := by omega
    walk_at "hbr"
    rw [hmod]
    have e10 : (i * 7 + s) % 10 < 10 := by omega
    have enm : nm j p ((i * 7 + s) % 10) t = ((LJ' j ++ strRep (LJ' j) p) ++ numS ((i * 7 + s) % 10)) ++ tails.getD t "" := rfl
    have elen : (Str.ofString (toString (((i * 7 + s) % 10 : Nat) : Int))).length = (numS ((i * 7 + s) % 10)).length := rfl
    have hq5 : m5 q = some (.lst (xs.map .str)) := by rw [d45.2 q hqb]; exact hxq
    simp only [Str.length_append]
    refine ⟨⟨_, hq5⟩, ⟨by omega, by omega, by omega⟩, by omega, by decide, by decide, by omega, by omega, by omega, _, hq5, by rw [List.length_map]; omega, ⟨xs ++ [nm j p ((i * 7 + s) % 10) t], by simp [hxl], ?_, ?_⟩, ?_, ?_, _, _, _, rfl⟩
    · intro i' z e
      by_cases hlt : i' < xs.length
      · rw [List.getElem?_append_left hlt] at e
        exact hxs i' z e
      · rw [List.getElem?_append_right (by omega)] at e
        have : i' - xs.length = 0 := by
          have := (List.getElem?_eq_some_iff.mp e).1
          simp at this; omega
        rw [this] at e
        simp at e
        have : i' = i := by omega
        rw [this, ← e]
        exact ⟨j, p, t, hj, hp, ht, rfl⟩
    · rw [mset_same, List.map_append]; rfl
    · exact d5.1.mset hqb
    · intro x h1 h2
      rw [mset_ne h2, d45.2 x h1]; exact hfr x h1 h2
  · rintro Γ m' ⟨⟨xs, hxl, hxs, hxq⟩, hbx, hfr, x6, x7, x8, rfl⟩
    clear hG
    subst hR
    refine frz_step rfl hxq ?_
    walk_at "hbr"
    refine endN (h xs _ hxl ?_ ?_ ⟨hbx.mdel hqb, fun x hx => ?_⟩)
    · intro z hz
      obtain ⟨i, hi, rfl⟩ := List.mem_iff_getElem.mp hz
      obtain ⟨j, p, t, hj, hp, ht, e⟩ := hxs i _ (List.getElem?_eq_getElem hi)
      rw [e]
      exact (ckN_at hj hp (by omega) ht).1
    · refine List.pairwise_iff_getElem.mpr fun i i' hi hi' hlt e => ?_
      obtain ⟨j, p, t, hj, hp, ht, e1⟩ := hxs i _ (List.getElem?_eq_getElem hi)
      obtain ⟨j', p', t', hj', hp', ht', e2⟩ := hxs i' _ (List.getElem?_eq_getElem hi')
      have := nm_inj hj hp (by omega) ht hj' hp' (by omega) ht' (e1.symm.trans (e.trans e2))
      omega
    · by_cases e : x = q
      · rw [e, mdel_same, ← hq]
        rw [← (d.2 q hqb)]
      · rw [mdel_ne e]; exact hfr x hx e
end
set_option Elab.async false
set_option linter.all false
set_option maxRecDepth 100000
set_option maxHeartbeats 4000000
section
open PySem L2 TL
variable {K : PySem.W.Frag} {a : Ad} {ds : List D} {m m' m'' : Mem} {P : PD} {k : BkA} {B : Bk}
def unsIx (ms : List Mt) : List Nat := (List.range ms.length).filter fun i => match ms[i]? with
  | some x => !x.sure
  | none => false
def T__law_unsure : PT1 := fun ds m P => ∃ ms : List Mt, ds = [.lst (ms.map Mt.d)] ∧ ms.length ≤ 1000 ∧ P (.lst ((unsIx ms).map fun i => .int (i : Nat))) m
theorem p__law_unsure (h : T__law_unsure ds m P) : s__law_unsure K a (ends1 P) (startG N__law_unsure ds) m := by
  obtain ⟨ms, rfl, hl, h⟩ := h
  unfold s__law_unsure sLc iRange
  walk_at "hbr"
  refine ⟨ms.length, by rw [List.length_map], by omega, fun i => (match ms[i]? with | some x => !x.sure | none => false), fun i => .int (i : Nat), by omega, fun i p out hi hp => ?_, ?_⟩
  · obtain ⟨x, hx⟩ : ∃ x, ms[i]? = some x := ⟨ms[i], List.getElem?_eq_getElem hi⟩
    refine ⟨x.d, by rw [List.getElem?_map, hx]; rfl, ?_⟩
    simp only [Mt.d]
    walk_at "hbr"
    rw [hx]
    exact ⟨rfl, fun _ => trivial⟩
  · exact ⟨fun _ _ _ => trivial, endN h⟩
def T__law_pair_met : PT1 := fun ds m P => ∃ (q : Addr) (ms : List Mt) (x : Mt), ds = [.ref q, .int (x.day : Nat), .str x.one, .str x.two] ∧ m q = some (.lst (ms.map Mt.d)) ∧ ∀ b, (b = false → ∀ y ∈ ms, ¬ y.same x) → P (.bl b) m
theorem p__law_pair_met (h : T__law_pair_met ds m P) : s__law_pair_met K a (ends1 P) (startG N__law_pair_met ds) m := by
  obtain ⟨q, ms, x, rfl, hq, h⟩ := h
  unfold s__law_pair_met
  refine seq_step fun R hR => ?_
  refine for_step fun G hG => ?_
  unfold iLst
  walk_at "hbr"
  refine ⟨_, hq, fun i Γ m' => m' = m ∧ (∀ y ∈ ms.take i, ¬ y.same x) ∧ ∃ z, Γ = [some (.ref q), some (.int (x.day : Nat)), some (.str x.one), some (.str x.two), z], ⟨rfl, by simp, _, rfl⟩, ?_, ?_, ?_⟩
  · rintro i Γ m' _ ⟨rfl, _⟩; exact hq
  · rintro i Γ m' hi ⟨rfl, hs, z, rfl⟩
    rw [List.length_map] at hi
    rw [dgetM hi, hG]
    clear hG
    have hnext : ¬ ms[i].same x → ∀ y ∈ ms.take (i + 1), ¬ y.same x := fun hn y hy => by
      rw [take_succ' hi] at hy
      rcases List.mem_append.mp hy with hy | hy
      · exact hs y hy
      · rw [List.mem_singleton.mp hy]; exact hn
    generalize ms[i] = y at *
    have cutE : cutD [.int (y.day : Nat), .str y.one, .str y.two, .bl y.sure] (some 1) (some 3) = [D.str y.one, .str y.two] := rfl
    simp only [gN]
    refine if_step fun S U hS hU => ?_
    have go : ¬ y.same x → U [some (.ref q), some (.int (x.day : Nat)), some (.str x.one), some (.str x.two), some y.d] m' := fun hn => by
      rw [hU]
      walk_at "hbr"
      exact ⟨hnext hn, _, rfl⟩
    have hit : S [some (.ref q), some (.int (x.day : Nat)), some (.str x.one), some (.str x.two), some y.d] m' := by
      rw [hS]
      walk_at "hbr"
      exact endN (h true fun e => nomatch e)
    clear hS hU
    unfold Mt.d at go hit ⊢
    walk_at "hbr"
    rw [dN]
    by_cases e1 : y.day = x.day
    · rw [decide_eq_true e1]
      walk_at "hbr"
      rw [cutE]
      refine ⟨by decide, [y.one, y.two], rfl, ?_⟩
      by_cases e2 : x.one ∈ [y.one, y.two]
      · rw [decide_eq_true e2]
        walk_at "hbr"
        refine ⟨by decide, [y.one, y.two], rfl, ?_⟩
        by_cases e3 : x.two ∈ [y.one, y.two]
        · rw [decide_eq_true e3]; exact hit
        · rw [decide_eq_false e3]
          exact go fun hs => e3 (by simp only [List.mem_cons, List.not_mem_nil, or_false]; exact hs.2.2)
      · rw [decide_eq_false e2]
        exact go fun hs => e2 (by simp only [List.mem_cons, List.not_mem_nil, or_false]; exact hs.2.1)
    · rw [decide_eq_false e1]
      walk_at "hbr"
      exact go fun hs => e1 hs.1
  · rintro Γ m' ⟨rfl, hs, z, rfl⟩
    rw [List.length_map, List.take_length] at hs
    subst hR
    exact endN (h false fun _ => hs)
/-! meetings drawn -/
def MsOK (pp : List Str) (final : Nat) (ms : List Mt) : Prop := ∀ (i : Nat) (x : Mt), ms[i]? = some x → x.one ∈ pp ∧ x.two ∈ pp ∧ x.one ≠ x.two ∧ 1 ≤ x.day ∧ x.day ≤ final ∧ ∀ (j : Nat) (y : Mt), j < i → ms[j]? = some y → ¬ y.same x
theorem MsOK.snoc {pp : List Str} {final : Nat} {ms : List Mt} {x : Mt} (h : MsOK pp final ms) (h1 : x.one ∈ pp) (h2 : x.two ∈ pp) (h3 : x.one ≠ x.two) (h4 : 1 ≤ x.day) (h5 : x.day ≤ final) (h6 : ∀ y ∈ ms, ¬ y.same x) : MsOK pp final (ms ++ [x]) := by
  intro i z e
  by_cases hlt : i < ms.length
  · rw [List.getElem?_append_left hlt] at e
    obtain ⟨q1, q2, q3, q4, q5, q6⟩ := h i z e
    refine ⟨q1, q2, q3, q4, q5, fun j y hj ey => ?_⟩
    rw [List.getElem?_append_left (by omega)] at ey
    exact q6 j y hj ey
  · rw [List.getElem?_append_right (by omega)] at e
    have hi0 : i - ms.length = 0 := by
      have := (List.getElem?_eq_some_iff.mp e).1
      simp at this; omega
    rw [hi0] at e
    simp at e
    subst e
    refine ⟨h1, h2, h3, h4, h5, fun j y hj ey => ?_⟩
    rw [List.getElem?_append_left (by omega)] at ey
    exact h6 y (List.mem_of_getElem? ey)
theorem other {n f r : Nat} (hf : f < n) (hr : r < n - 1) : (f + 1 + r) % n < n ∧ (f + 1 + r) % n ≠ f := by
  by_cases h : f + 1 + r < n
  · rw [Nat.mod_eq_of_lt h]; omega
  · rw [Nat.mod_eq_sub_mod (by omega), Nat.mod_eq_of_lt (by omega)]; omega
theorem nodup_ne {xs : List Str} (h : xs.Nodup) {i j : Nat} (hi : i < xs.length) (hj : j < xs.length) (hne : j ≠ i) : xs[i] ≠ xs[j] := fun e => hne ((List.getElem_inj h).mp e).symm
theorem modI {n x : Nat} : ((x : Nat) : Int) % (n : Int) = ((x % n : Nat) : Int) := by omega
def T__law_meetings : PT1 := fun ds m P => ∃ (b : Addr) (pp : List Str) (final n : Nat), ds = [.ref b, .lst (pp.map .str), .int final, .int n] ∧ BxAt m b ∧ pp.Nodup ∧ 1 ≤ pp.length ∧ pp.length ≤ 8 ∧ 1 ≤ final ∧ final ≤ 30 ∧ n ≤ 20 ∧
  ∀ ms m', MsOK pp final ms → ms.length ≤ n → unsures ms ≤ 3 → Drawn b m m' → P (.lst (ms.map Mt.d)) m'
theorem p__law_meetings (h : T__law_meetings ds m P) : s__law_meetings K a T__law_take T__law_pair_met (ends1 P) (startG N__law_meetings ds) m := by
  obtain ⟨b, pp, final, n, rfl, hb, hnd, hp1, hp8, hf1, hf30, hn, h⟩ := h
  unfold s__law_meetings
  refine seq_step fun R hR => ?_
  walk_at "hbr"
  refine ⟨by decide, fun q hq => ?_⟩
  have hqb : q ≠ b := fun e => hb.there (by rw [← e]; exact hq)
  have done : ∀ (ms : List Mt) m', m' q = some (.lst (ms.map Mt.d)) → BxAt m' b → (∀ x, x ≠ b → x ≠ q → m' x = m x) → Drawn b m (mdel m' q) := fun ms m' h1 h2 h3 => ⟨h2.mdel hqb, fun x hx => by
    by_cases e : x = q
    · rw [e, mdel_same, hq]
    · rw [mdel_ne e]; exact h3 x hx e⟩
  subst hR
  refine seq_step fun R hR => ?_
  walk_at "hbr"
  subst hR
  refine seq_step fun R hR => ?_
  refine if_step fun S U hS hU => ?_
  walk_at "hbr"
  rw [List.length_map]
  by_cases c : (pp.length : Int) < 2
  · rw [decide_eq_true c]
    walk_at "hbr"
    rw [hS]
    clear hS hU hR
    refine frz_step rfl mset_same ?_
    walk_at "hbr"
    exact endN (h [] _ (fun i x e => by simp at e) (by simp) (by simp [unsures]) (done [] _ mset_same (hb.mset hqb) fun x h1 h2 => mset_ne h2))
  rw [decide_eq_false c]
  walk_at "hbr"
  rw [hU]
  clear hS hU
  walk_at "hbr"
  subst hR
  refine seq_step fun R hR => ?_
  refine for_step fun G hG => ?_
  unfold iRange
  walk_at "hbr"
  refine ⟨n, rfl, by omega, fun i Γ m' => ∃ ms : List Mt, MsOK pp final ms ∧ ms.length ≤ i ∧ unsures ms ≤ 3 ∧ m' q = some (.lst (ms.map Mt.d)) ∧ BxAt m' b ∧ (∀ x, x ≠ b → x ≠ q → m' x = m x) ∧ ∃ x6 x7 x8 x9 x10, Γ = [some (.ref b), some (.lst (pp.map .str)), some (.int (final : Nat)), some (.int (n : Nat)), some (.ref q), some (.int (unsures ms : Nat)), x6, x7, x8, x9, x10],
    ⟨[], fun i x e => by simp at e, by simp, by simp [unsures], mset_same, hb.mset hqb, fun x h1 h2 => mset_ne h2, _, _, _, _, _, rfl⟩, fun _ _ _ _ _ => trivial, ?_, ?_⟩
  · rintro i Γ m' hi ⟨ms, hms, hml, hmu, hmq, hbx, hfr, x6, x7, x8, x9, x10, rfl⟩
    rw [hG]
    clear hG
    simp only [gN]
    refine seq_step fun R hR => ?_
    walk_at "hbr"
    refine take_do hbx (by omega) (by omega) fun d0 m4 hd0 d4 => ?_
    walk_at "hbr"
    subst hR
    refine seq_step fun R hR => ?_
    walk_at "hbr"
    rw [List.length_map]
    refine take_do d4.1 (by omega) (by omega) fun f m5 hf d5 => ?_
    subst hR
    refine seq_step fun R hR => ?_
    walk_at "hbr"
    rw [List.length_map]
    have e1 : ((pp.length : Int) - 1) = ((pp.length - 1 : Nat) : Int) := by omega
    rw [e1]
    refine take_do d5.1 (by omega) (by omega) fun r m6 hr d6 => ?_
    walk_at "hbr"
    refine ⟨by omega, ?_⟩
    obtain ⟨ho1, ho2⟩ := other hf hr
    have e2 : (((f : Int) + 1) + (r : Int)) % (pp.length : Int) = (((f + 1 + r) % pp.length : Nat) : Int) := by
      rw [← modI]; congr 1
    rw [e2]
    generalize (f + 1 + r) % pp.length = g at *
    have d46 := (d4.trans d5).trans d6
    subst hR
    refine seq_step fun R hR => ?_
    walk_at "hbr"
    refine take_do (n := 4) d6.1 (by decide) (by decide) fun t m7 ht d7 => ?_
    walk_at "hbr"
    have d47 := d46.trans d7
    have h7q : m7 q = some (.lst (ms.map Mt.d)) := by rw [d47.2 q hqb]; exact hmq
    have hcert : ∀ s : Bool, (s = false → unsures ms ≤ 2) → R [some (.ref b), some (.lst (pp.map .str)), some (.int (final : Nat)), some (.int (n : Nat)), some (.ref q), some (.int (unsures ms : Nat)), some (.int (i : Nat)), some (.int (1 + (d0 : Int))), some (.int (f : Nat)), some (.int (g : Nat)), some (.bl s)] m7 := by
      intro s hs
      rw [hR]
      clear hR
      have ef : (pp.map D.str)[f]? = some (.str pp[f]) := by rw [List.getElem?_map, List.getElem?_eq_getElem hf]; rfl
      have eg : (pp.map D.str)[g]? = some (.str pp[g]) := by rw [List.getElem?_map, List.getElem?_eq_getElem ho1]; rfl
      have hne := nodup_ne hnd hf ho1 ho2
      have mf : pp[f] ∈ pp := List.getElem_mem hf
      have mg : pp[g] ∈ pp := List.getElem_mem ho1
      generalize pp[f] = pf at *
      generalize pp[g] = pg at *
      refine if_step fun S U hS hU => ?_
      walk_at "hbr"
      refine ⟨_, ef, _, eg, q, ms, ⟨1 + d0, pf, pg, s⟩, ?_, h7q, fun bb hbb => ?_⟩
      · have : (1 + (d0 : Int)) = ((1 + d0 : Nat) : Int) := by omega
        rw [this]
      walk_at "hbr"
      cases bb with
      | true =>
        walk_at "hbr"
        rw [hU]
        walk_at "hbr"
        exact ⟨ms, hms, by omega, hmu, h7q, d7.1, fun x h1 h2 => by rw [d47.2 x h1]; exact hfr x h1 h2, _, _, _, _, _, rfl⟩
      | false =>
        walk_at "hbr"
        rw [hS]
        clear hS hU
        refine seq_step fun R hR => ?_
        walk_at "hbr"
        refine ⟨⟨_, h7q⟩, _, ef, _, eg, by decide, _, h7q, by rw [List.length_map]; omega, ?_⟩
        have ed : D.tup [.int (1 + (d0 : Int)), .str pf, .str pg, .bl s] = Mt.d ⟨1 + d0, pf, pg, s⟩ := by
          simp only [Mt.d]
          have : (1 + (d0 : Int)) = ((1 + d0 : Nat) : Int) := by omega
          rw [this]
        rw [ed]
        have hms2 := hms.snoc (x := ⟨1 + d0, pf, pg, s⟩) mf mg hne (by show 1 ≤ 1 + d0; omega) (by show 1 + d0 ≤ final; omega) (hbb rfl)
        have hm2 : (ms.map Mt.d) ++ [Mt.d ⟨1 + d0, pf, pg, s⟩] = (ms ++ [(⟨1 + d0, pf, pg, s⟩ : Mt)]).map Mt.d := by rw [List.map_append]; rfl
        rw [hm2]
        have hfr2 : ∀ x, x ≠ b → x ≠ q → mset m7 q (.lst ((ms ++ [(⟨1 + d0, pf, pg, s⟩ : Mt)]).map Mt.d)) x = m x := fun x h1 h2 => by rw [mset_ne h2, d47.2 x h1]; exact hfr x h1 h2
        have hl2 : (ms ++ [(⟨1 + d0, pf, pg, s⟩ : Mt)]).length ≤ i + 1 := by rw [List.length_append]; simp; omega
        subst hR
        cases s with
        | true =>
          walk_at "hbr"
          have hu2 : unsures (ms ++ [(⟨1 + d0, pf, pg, true⟩ : Mt)]) = unsures ms := by unfold unsures; rw [List.filter_append]; simp
          exact ⟨_, hms2, hl2, by omega, mset_same, d7.1.mset hqb, hfr2, _, _, _, _, _, by rw [hu2]⟩
        | false =>
          have := hs rfl
          have hu2 : unsures (ms ++ [(⟨1 + d0, pf, pg, false⟩ : Mt)]) = unsures ms + 1 := by unfold unsures; rw [List.filter_append]; simp
          walk_at "hbr"
          exact ⟨_, hms2, hl2, by omega, mset_same, d7.1.mset hqb, hfr2, _, _, _, _, _, by rw [hu2]; rfl⟩
    by_cases et : (t : Int) = 1
    · rw [decide_eq_true et]
      walk_at "hbr"
      refine hcert _ fun hs => ?_
      have := of_decide_eq_false hs
      omega
    · rw [decide_eq_false et]
      walk_at "hbr"
      exact hcert true fun e => nomatch e
  · rintro Γ m' ⟨ms, hms, hml, hmu, hmq, hbx, hfr, x6, x7, x8, x9, x10, rfl⟩
    clear hG
    subst hR
    refine frz_step rfl hmq ?_
    walk_at "hbr"
    exact endN (h ms _ hms hml hmu (done ms _ hmq hbx hfr))
end
set_option Elab.async false
set_option linter.all false
set_option maxRecDepth 100000
set_option maxHeartbeats 4000000
section
open PySem L2 TL
variable {K : PySem.W.Frag} {a : Ad} {ds : List D} {m m' m'' : Mem} {P : PD} {k : BkA} {B : Bk}
/-! turns drawn -/
def TnOK (pp vs : List Str) (ts : List Tn) : Prop := ts.Nodup ∧ ∀ x ∈ ts, x.who ∈ pp ∧ x.old ∈ vs ∧ x.new ∈ vs ∧ x.old ≠ x.new
def T__law_changes : PT1 := fun ds m P => ∃ (b : Addr) (pp vs : List Str) (n : Nat), ds = [.ref b, .lst (pp.map .str), .lst (vs.map .str), .int n] ∧ BxAt m b ∧ (∀ z ∈ pp, NameOK z) ∧ (∀ z ∈ vs, NameOK z) ∧ vs.Nodup ∧ 1 ≤ pp.length ∧ pp.length ≤ 8 ∧ vs.length ≤ 8 ∧ n ≤ 20 ∧
  ∀ ts m', TnOK pp vs ts → ts.length ≤ n → Drawn b m m' → P (.lst (ts.map Tn.d)) m'
theorem p__law_changes (h : T__law_changes ds m P) : s__law_changes K a T__law_take (ends1 P) (startG N__law_changes ds) m := by
  obtain ⟨b, pp, vs, n, rfl, hb, hpn, hvn, hnd, hp1, hp8, hv8, hn, h⟩ := h
  unfold s__law_changes
  refine seq_step fun R hR => ?_
  walk_at "hbr"
  refine ⟨by decide, fun q hq => ?_⟩
  have hqb : q ≠ b := fun e => hb.there (by rw [← e]; exact hq)
  have done : ∀ m', BxAt m' b → (∀ x, x ≠ b → x ≠ q → m' x = m x) → Drawn b m (mdel m' q) := fun m' h2 h3 => ⟨h2.mdel hqb, fun x hx => by
    by_cases e : x = q
    · rw [e, mdel_same, hq]
    · rw [mdel_ne e]; exact h3 x hx e⟩
  subst hR
  refine seq_step fun R hR => ?_
  refine if_step fun S U hS hU => ?_
  walk_at "hbr"
  rw [List.length_map]
  by_cases c : (vs.length : Int) < 2
  · rw [decide_eq_true c]
    walk_at "hbr"
    rw [hS]
    clear hS hU hR
    refine frz_step rfl mset_same ?_
    walk_at "hbr"
    exact endN (h [] _ ⟨by simp, fun x hx => (by cases hx)⟩ (by simp) (done _ (hb.mset hqb) fun x h1 h2 => mset_ne h2))
  rw [decide_eq_false c]
  walk_at "hbr"
  rw [hU]
  clear hS hU
  walk_at "hbr"
  subst hR
  refine seq_step fun R hR => ?_
  refine for_step fun G hG => ?_
  unfold iRange
  walk_at "hbr"
  refine ⟨n, rfl, by omega, fun i Γ m' => ∃ ts : List Tn, TnOK pp vs ts ∧ ts.length ≤ i ∧ m' q = some (.lst (ts.map Tn.d)) ∧ BxAt m' b ∧ (∀ x, x ≠ b → x ≠ q → m' x = m x) ∧ ∃ x5 x6 x7 x8, Γ = [some (.ref b), some (.lst (pp.map .str)), some (.lst (vs.map .str)), some (.int (n : Nat)), some (.ref q), x5, x6, x7, x8],
    ⟨[], ⟨by simp, fun x hx => (by cases hx)⟩, by simp, mset_same, hb.mset hqb, fun x h1 h2 => mset_ne h2, _, _, _, _, rfl⟩, fun _ _ _ _ _ => trivial, ?_, ?_⟩
  · rintro i Γ m' hi ⟨ts, hts, htl, htq, hbx, hfr, x5, x6, x7, x8, rfl⟩
    rw [hG]
    clear hG
    simp only [gN]
    refine seq_step fun R hR => ?_
    walk_at "hbr"
    rw [List.length_map]
    refine take_do hbx (by omega) (by omega) fun f m4 hf d4 => ?_
    subst hR
    refine seq_step fun R hR => ?_
    walk_at "hbr"
    rw [List.length_map]
    have e1 : ((vs.length : Int) - 1) = ((vs.length - 1 : Nat) : Int) := by omega
    rw [e1]
    refine take_do d4.1 (by omega) (by omega) fun r m5 hr d5 => ?_
    walk_at "hbr"
    refine ⟨by omega, ?_⟩
    obtain ⟨ho1, ho2⟩ := other hf hr
    have e2 : (((f : Int) + 1) + (r : Int)) % (vs.length : Int) = (((f + 1 + r) % vs.length : Nat) : Int) := by
      rw [← modI]; congr 1
    rw [e2]
    generalize (f + 1 + r) % vs.length = g at *
    subst hR
    refine seq_step fun R hR => ?_
    walk_at "hbr"
    rw [List.length_map]
    refine take_do d5.1 (by omega) (by omega) fun w m6 hw d6 => ?_
    have d46 := (d4.trans d5).trans d6
    have ew : (pp.map D.str)[w]? = some (.str pp[w]) := by rw [List.getElem?_map, List.getElem?_eq_getElem hw]; rfl
    have ef : (vs.map D.str)[f]? = some (.str vs[f]) := by rw [List.getElem?_map, List.getElem?_eq_getElem hf]; rfl
    have eg : (vs.map D.str)[g]? = some (.str vs[g]) := by rw [List.getElem?_map, List.getElem?_eq_getElem ho1]; rfl
    have hne := nodup_ne hnd hf ho1 ho2
    have mw : pp[w] ∈ pp := List.getElem_mem hw
    have mf : vs[f] ∈ vs := List.getElem_mem hf
    have mg : vs[g] ∈ vs := List.getElem_mem ho1
    generalize pp[w] = pw at *
    generalize vs[f] = pf at *
    generalize vs[g] = pg at *
    walk_at "hbr"
    refine ⟨_, ew, _, ef, _, eg, by decide, ?_⟩
    have ed : D.tup [.str pw, .str pf, .str pg] = Tn.d ⟨pw, pf, pg⟩ := rfl
    rw [ed]
    have h6q : m6 q = some (.lst (ts.map Tn.d)) := by rw [d46.2 q hqb]; exact htq
    subst hR
    refine if_step fun S U hS hU => ?_
    walk_at "hbr"
    refine q_in_tn (x := ⟨pw, pf, pg⟩) h6q ⟨hpn _ mw, hvn _ mf, hvn _ mg⟩ (fun y hy => ⟨hpn _ (hts.2 y hy).1, hvn _ (hts.2 y hy).2.1, hvn _ (hts.2 y hy).2.2.1⟩) ?_
    by_cases hin : (⟨pw, pf, pg⟩ : Tn) ∈ ts
    · rw [decide_eq_true hin]
      show U _ _
      rw [hU]
      walk_at "hbr"
      exact ⟨ts, hts, by omega, h6q, d6.1, fun x h1 h2 => by rw [d46.2 x h1]; exact hfr x h1 h2, _, _, _, _, rfl⟩
    · rw [decide_eq_false hin]
      show S _ _
      rw [hS]
      walk_at "hbr"
      refine ⟨⟨_, h6q⟩, _, h6q, by rw [List.length_map]; omega, ts ++ [⟨pw, pf, pg⟩], ⟨?_, ?_⟩, by rw [List.length_append]; simp; omega, ?_, d6.1.mset hqb, fun x h1 h2 => by rw [mset_ne h2, d46.2 x h1]; exact hfr x h1 h2, _, _, _, _, rfl⟩
      · rw [List.nodup_append]
        refine ⟨hts.1, by simp, fun x hx y hy e => ?_⟩
        rw [List.mem_singleton.mp hy] at e
        rw [e] at hx
        exact hin hx
      · intro x hx
        rcases List.mem_append.mp hx with hx | hx
        · exact hts.2 x hx
        · rw [List.mem_singleton.mp hx]; exact ⟨mw, mf, mg, hne⟩
      · rw [mset_same, List.map_append]; rfl
  · rintro Γ m' ⟨ts, hts, htl, htq, hbx, hfr, x5, x6, x7, x8, rfl⟩
    clear hG
    subst hR
    refine frz_step rfl htq ?_
    walk_at "hbr"
    exact endN (h ts _ hts htl (done _ hbx hfr))
end
set_option Elab.async false
set_option linter.all false
set_option maxRecDepth 100000
set_option maxHeartbeats 4000000
section
open PySem L2 TL
variable {K : PySem.W.Frag} {a : Ad} {ds : List D} {m m' m'' : Mem} {P : PD} {k : BkA} {B : Bk}
/-! claims drawn -/
structure WMin (m : Mem) (w : Addr) (W : Bk) : Prop where
  at_ : ∃ kvs, m w = some (.dic kvs) ∧ kvs.lookup ("people" : Str) = some (.lst (W.people.map .str)) ∧ kvs.lookup ("last" : Str) = some (.int (W.last : Nat)) ∧ kvs.lookup ("versions" : Str) = some (.lst (W.versions.map .str)) ∧ kvs.lookup ("meetings" : Str) = some (.lst (W.meetings.map Mt.d))
theorem WMin.drawn {b w : Addr} {W : Bk} (h : WMin m w W) (d : Drawn b m m') (hw : w ≠ b) : WMin m' w W := by
  obtain ⟨kvs, h1, h2⟩ := h.at_
  exact ⟨kvs, by rw [d.2 w hw]; exact h1, h2⟩
theorem q_dget {w : Addr} {z : Str} {Q : PD} {kvs : List (Str × D)} {v : D} (h1 : m w = some (.dic kvs)) (h2 : kvs.lookup z = some v) (h : Q v m) : rhoDGet (.ref w) (.str z) m Q := ⟨kvs, z, v, h1, rfl, h2, h⟩
theorem WMin.people {w : Addr} {W : Bk} {Q : PD} (h : WMin m w W) (hq : Q (.lst (W.people.map .str)) m) : rhoDGet (.ref w) (.str "people") m Q := by
  obtain ⟨kvs, h1, h2, _⟩ := h.at_
  exact q_dget h1 h2 hq
theorem WMin.last {w : Addr} {W : Bk} {Q : PD} (h : WMin m w W) (hq : Q (.int (W.last : Nat)) m) : rhoDGet (.ref w) (.str "last") m Q := by
  obtain ⟨kvs, h1, _, h2, _⟩ := h.at_
  exact q_dget h1 h2 hq
theorem WMin.versions {w : Addr} {W : Bk} {Q : PD} (h : WMin m w W) (hq : Q (.lst (W.versions.map .str)) m) : rhoDGet (.ref w) (.str "versions") m Q := by
  obtain ⟨kvs, h1, _, _, h2, _⟩ := h.at_
  exact q_dget h1 h2 hq
theorem WMin.meetings {w : Addr} {W : Bk} {Q : PD} (h : WMin m w W) (hq : Q (.lst (W.meetings.map Mt.d)) m) : rhoDGet (.ref w) (.str "meetings") m Q := by
  obtain ⟨kvs, h1, _, _, _, h2⟩ := h.at_
  exact q_dget h1 h2 hq
theorem form_at {xs : List Str} {j : Nat} (hj : j < xs.length + 1) : ∃ o, (([D.non] : List D) ++ xs.map D.str)[j]? = some (oS o) ∧ Known xs o := by
  cases j with
  | zero => exact ⟨none, rfl, trivial⟩
  | succ j =>
    have hj' : j < xs.length := by omega
    refine ⟨some xs[j], ?_, List.getElem_mem hj'⟩
    show (xs.map D.str)[j]? = _
    rw [List.getElem?_map, List.getElem?_eq_getElem hj']; rfl
theorem opt_at {x : Str} {xs : List Str} (hx : x ∈ xs) {j : Nat} (hj : j < 2) : ∃ o, ([D.non, .str x] : List D)[j]? = some (oS o) ∧ Known xs o := by
  match j, hj with
  | 0, _ => exact ⟨none, rfl, trivial⟩
  | 1, _ => exact ⟨some x, rfl, hx⟩
theorem optn_at {x : Nat} {q : Nat → Prop} (hx : q x) {j : Nat} (hj : j < 2) : ∃ o, ([D.non, .int (x : Nat)] : List D)[j]? = some (oN o) ∧ OptN q o := by
  match j, hj with
  | 0, _ => exact ⟨none, rfl, trivial⟩
  | 1, _ => exact ⟨some x, rfl, hx⟩
theorem uns_at {ms : List Mt} {j : Nat} (hj : j < (unsIx ms).length) : ∃ x, ms[(unsIx ms)[j]]? = some x ∧ x.sure = false := by
  have h : (unsIx ms)[j] ∈ unsIx ms := List.getElem_mem hj
  generalize (unsIx ms)[j] = i at *
  unfold unsIx at h
  rw [List.mem_filter] at h
  obtain ⟨_, h2⟩ := h
  cases e : ms[i]? with
  | none => rw [e] at h2; cases h2
  | some x => rw [e] at h2; exact ⟨x, rfl, by simpa using h2⟩
theorem ints_py (us : List Nat) : toPys (us.map fun i => D.int (i : Nat)) = some (us.map fun i => .int (i : Nat)) := by
  induction us with
  | nil => simp only [List.map_nil, toPys]
  | cons x us ih => simp only [List.map_cons, toPys, toPy, ih]
theorem eqD_nil (us : List Nat) : eqD (.lst (us.map fun i => D.int (i : Nat))) (.lst []) (decide (us = [])) := by
  have h1 : PyData.canLayAll0 (us.map fun i => PyData.int (i : Nat)) = true := by
    induction us with
    | nil => simp only [List.map_nil, PyData.canLayAll0]
    | cons x us ih => simp only [List.map_cons, PyData.canLayAll0, PyData.canLay0, ih, Bool.and_self]
  have h2 : PyData.depthAll (us.map fun i => PyData.int (i : Nat)) = 0 := by
    clear h1
    induction us with
    | nil => simp only [List.map_nil, PyData.depthAll]
    | cons x us ih => simp only [List.map_cons, PyData.depthAll, PyData.depth, ih, Nat.max_self]
  refine ⟨.list (us.map fun i => .int (i : Nat)), .list [], by simp only [toPy, ints_py], by simp only [toPy, toPys], ?_, by decide +kernel, ?_⟩
  · unfold SeqAt.shaped
    simp only [PyData.canLay0, h1, PyData.depth, h2]
    decide
  · cases us with
    | nil => simp [PyData.eqv, PyData.eqvAll]
    | cons x us => simp [PyData.eqv, PyData.eqvAll]
theorem unsIx_len (ms : List Mt) : (unsIx ms).length ≤ ms.length := by
  unfold unsIx
  exact Nat.le_trans (List.length_filter_le _ _) (by rw [List.length_range]; exact Nat.le_refl _)
def SmallW (W : Bk) : Prop := 1 ≤ W.people.length ∧ W.people.length ≤ 8 ∧ 1 ≤ W.versions.length ∧ W.versions.length ≤ 8 ∧ 1 ≤ W.last ∧ W.last ≤ 30 ∧ W.meetings.length ≤ 30
def T__law_claim_row : PT1 := fun ds m P => ∃ (b w : Addr) (W : Bk), ds = [.ref b, .ref w] ∧ BxAt m b ∧ w ≠ b ∧ WMin m w W ∧ SmallW W ∧ ∀ (r : Row) m', Suits W r.2 → Drawn b m m' → P (rowD r) m'
theorem p__law_claim_row (h : T__law_claim_row ds m P) : s__law_claim_row K a T__law_take T__law_unsure (ends1 P) (startG N__law_claim_row ds) m := by
  obtain ⟨b, w, W, rfl, hb, hwb, hW, ⟨s1, s2, s3, s4, s5, s6, s7⟩, h⟩ := h
  unfold s__law_claim_row
  refine seq_step fun R hR => ?_
  walk_at "hbr"
  refine hW.people ?_
  subst hR
  refine seq_step fun R hR => ?_
  walk_at "hbr"
  refine hW.last ?_
  subst hR
  refine seq_step fun R hR => ?_
  walk_at "hbr"
  refine ⟨by decide, hW.versions ?_⟩
  walk_at "hbr"
  have hfl : (([D.non] : List D) ++ W.versions.map D.str).length = W.versions.length + 1 := by simp
  refine ⟨by rw [List.length_map]; omega, ?_⟩
  obtain ⟨fm, hfm⟩ : ∃ fm : List D, fm = (([D.non] : List D) ++ W.versions.map D.str) := ⟨_, rfl⟩
  have hfm' : fm = D.non :: W.versions.map D.str := hfm
  rw [← hfm'] 
  rw [← hfm] at hfl
  have hfa : ∀ {j : Nat}, j < fm.length → ∃ o, fm[j]? = some (oS o) ∧ Known W.versions o := fun {j} hj => by
    rw [hfm]; exact form_at (by omega)
  clear hfm hfm'
  subst hR
  refine seq_step fun R hR => ?_
  walk_at "hbr"
  rw [List.length_map]
  refine take_do hb (by omega) (by omega) fun j1 m1 hj1 d1 => ?_
  walk_at "hbr"
  refine ⟨.str W.people[j1], by rw [List.getElem?_map, List.getElem?_eq_getElem hj1]; rfl, ?_⟩
  have who := List.getElem_mem hj1
  generalize W.people[j1] = wh at *
  subst hR
  refine seq_step fun R hR => ?_
  walk_at "hbr"
  rw [List.length_map]
  refine take_do d1.1 (by omega) (by omega) fun j2 m2 hj2 d2 => ?_
  walk_at "hbr"
  refine ⟨.str W.people[j2], by rw [List.getElem?_map, List.getElem?_eq_getElem hj2]; rfl, ?_⟩
  have oth := List.getElem_mem hj2
  generalize W.people[j2] = ot at *
  subst hR
  refine seq_step fun R hR => ?_
  walk_at "hbr"
  refine take_do d2.1 (by omega) (by omega) fun j3 m3 hj3 d3 => ?_
  obtain ⟨fo, hfo, kfo⟩ := hfa hj3
  walk_at "hbr"
  refine ⟨_, hfo, ?_⟩
  obtain ⟨dfo, hdfo⟩ : ∃ d, d = oS fo := ⟨_, rfl⟩
  rw [← hdfo]
  subst hR
  refine seq_step fun R hR => ?_
  walk_at "hbr"
  refine take_do (n := 9) d3.1 (by decide) (by decide) fun kd m4 hkd d4 => ?_
  subst hR
  refine seq_step fun R hR => ?_
  walk_at "hbr"
  refine take_do (n := 3) d4.1 (by decide) (by decide) fun ps m5 hps d5 => ?_
  walk_at "hbr"
  generalize (!decide ((ps : Int) = 1)) = pos
  have d15 := (((d1.trans d2).trans d3).trans d4).trans d5
  subst hR
  refine seq_step fun R hR => ?_
  walk_at "hbr"
  refine (hW.drawn d15 hwb).meetings ⟨W.meetings, rfl, by omega, ?_⟩
  have done : ∀ (c : Cl) m', Suits W c → Drawn b m5 m' → ∃ m'', Le m'' m' ∧ P (.tup [.bl pos, .tup c.words]) m'' := fun c m' h1 h2 => endN (h (pos, c) m' h1 (d15.trans h2))
  clear d1 d2 d3 d4
  subst hR
  refine seq_step fun R hR => ?_
  refine if_step fun S U hS hU => ?_
  walk_at "hbr"
  by_cases c1 : (kd : Int) < 4
  · rw [decide_eq_true c1]
    walk_at "hbr"
    rw [hS]
    clear hS hU
    walk_at "hbr"
    have e1 : (W.last : Int) + 1 = ((W.last + 1 : Nat) : Int) := by omega
    rw [e1]
    refine take_do d5.1 (by omega) (by omega) fun dd m6 hdd d6 => ?_
    refine ⟨by decide, by decide, ?_⟩
    rw [hdfo]
    exact done (.knew wh dd fo) m6 ⟨who, by omega, kfo⟩ d6
  rw [decide_eq_false c1]
  walk_at "hbr"
  rw [hU]
  clear hS hU
  walk_at "hbr"
  subst hR
  refine seq_step fun R hR => ?_
  refine if_step fun S U hS hU => ?_
  walk_at "hbr"
  by_cases c2 : (kd : Int) < 6
  · rw [decide_eq_true c2]
    walk_at "hbr"
    rw [hS]
    clear hS hU hR
    refine seq_step fun R hR => ?_
    walk_at "hbr"
    refine take_do d5.1 (by omega) (by omega) fun f0 m6 hf0 d6 => ?_
    walk_at "hbr"
    have e1 : (1 + (f0 : Int)) = ((1 + f0 : Nat) : Int) := by omega
    rw [e1]
    subst hR
    refine seq_step fun R hR => ?_
    walk_at "hbr"
    have e2 : ((W.last : Int) - ((1 + f0 : Nat) : Int)) + 1 = ((W.last - f0 : Nat) : Int) := by omega
    rw [e2]
    refine take_do d6.1 (by omega) (by omega) fun l0 m7 hl0 d7 => ?_
    walk_at "hbr"
    refine ⟨by decide, ?_⟩
    refine take_do (n := 2) d7.1 (by decide) (by decide) fun j7 m8 hj7 d8 => ?_
    have e3 : (((1 + f0 : Nat) : Int) + (l0 : Int)) = ((1 + f0 + l0 : Nat) : Int) := by omega
    rw [e3]
    obtain ⟨lo, hlo, klo⟩ := optn_at (q := fun n => 1 + f0 ≤ n ∧ n ≤ W.last) (x := 1 + f0 + l0) (by constructor <;> omega) hj7
    walk_at "hbr"
    refine ⟨_, hlo, ?_⟩
    obtain ⟨dlo, hdlo⟩ : ∃ d, d = oN lo := ⟨_, rfl⟩
    rw [← hdlo]
    subst hR
    walk_at "hbr"
    refine ⟨by decide, ?_⟩
    refine take_do (n := 2) d8.1 (by decide) (by decide) fun j8 m9 hj8 d9 => ?_
    obtain ⟨o1, ho1, ko1⟩ := opt_at who hj8
    walk_at "hbr"
    refine ⟨_, ho1, by decide, ?_⟩
    refine take_do (n := 2) d9.1 (by decide) (by decide) fun j9 m10 hj9 d10 => ?_
    obtain ⟨o2, ho2, ko2⟩ := opt_at oth hj9
    walk_at "hbr"
    refine ⟨_, ho2, by simp, by simp, ?_⟩
    rw [hdlo]
    exact done (.told o1 o2 (1 + f0) lo) m10 ⟨ko1, ko2, by omega, by omega, klo⟩ ((((d6.trans d7).trans d8).trans d9).trans d10)
  rw [decide_eq_false c2]
  walk_at "hbr"
  rw [hU]
  clear hS hU
  walk_at "hbr"
  subst hR
  refine seq_step fun R hR => ?_
  refine if_step fun S U hS hU => ?_
  walk_at "hbr"
  by_cases c3 : (kd : Int) = 6
  · rw [decide_eq_true c3]
    walk_at "hbr"
    rw [hS]
    clear hS hU
    walk_at "hbr"
    refine ⟨by decide, by decide, ?_⟩
    rw [hdfo]
    exact done (.began wh fo) m5 ⟨who, kfo⟩ (Drawn.refl d5.1)
  rw [decide_eq_false c3]
  walk_at "hbr"
  rw [hU]
  clear hS hU
  walk_at "hbr"
  subst hR
  refine seq_step fun R hR => ?_
  refine if_step fun S U hS hU => ?_
  have last : U [some (.ref b), some (.ref w), some (.lst (W.people.map .str)), some (.int (W.last : Nat)), some (.lst fm), some (.str wh), some (.str ot), some dfo, some (.int (kd : Nat)), some (.bl pos), some (.lst ((unsIx W.meetings).map fun i => .int (i : Nat))), none, none] m5 := by
    rw [hU]
    clear hS hU
    walk_at "hbr"
    subst hR
    walk_at "hbr"
    refine take_do d5.1 (by omega) (by omega) fun j6 m6 hj6 d6 => ?_
    obtain ⟨o6, ho6, ko6⟩ := hfa hj6
    walk_at "hbr"
    refine ⟨_, ho6, by simp, by simp, ?_⟩
    rw [hdfo]
    exact done (.turned wh fo o6) m6 ⟨who, kfo, ko6⟩ d6
  clear hU
  walk_at "hbr"
  by_cases c4 : (kd : Int) = 7
  · rw [decide_eq_true c4]
    walk_at "hbr"
    refine ⟨by decide, ?_⟩
    refine ⟨decide (unsIx W.meetings = []), eqD_nil _, ?_⟩
    · by_cases c5 : unsIx W.meetings = []
      · rw [decide_eq_true c5]
        exact last
      · rw [decide_eq_false c5]
        show S _ _
        rw [hS]
        clear hS
        walk_at "hbr"
        rw [List.length_map]
        have hul := unsIx_len W.meetings
        have hup : 0 < (unsIx W.meetings).length := List.length_pos_iff.mpr c5
        refine take_do d5.1 hup (by omega) fun j6 m6 hj6 d6 => ?_
        obtain ⟨x, hx, hxs⟩ := uns_at hj6
        walk_at "hbr"
        refine ⟨.int ((unsIx W.meetings)[j6] : Nat), by rw [List.getElem?_map, List.getElem?_eq_getElem hj6]; rfl, by decide, by decide, ?_⟩
        exact done (.held (unsIx W.meetings)[j6]) m6 ⟨x, hx, hxs⟩ d6
  · rw [decide_eq_false c4]
    exact last
end
set_option Elab.async false
set_option linter.all false
set_option maxRecDepth 100000
set_option maxHeartbeats 4000000
section
open PySem L2 TL
variable {K : PySem.W.Frag} {a : Ad} {ds : List D} {m m' m'' : Mem} {P : PD} {k : BkA} {B : Bk}
/-! facts drawn -/
def FsOK (W : Bk) (fss : List (List Row)) : Prop := ∀ rs ∈ fss, rs ≠ [] ∧ rs.length ≤ 3 ∧ ∀ r ∈ rs, Suits W r.2
theorem WMin.eq {w : Addr} {W : Bk} (h : WMin m w W) (e : m' w = m w) : WMin m' w W := by
  obtain ⟨kvs, h1, h2⟩ := h.at_
  exact ⟨kvs, by rw [e]; exact h1, h2⟩
theorem WMin.there {w : Addr} {W : Bk} (h : WMin m w W) : m w ≠ none := by
  obtain ⟨kvs, h1, h2⟩ := h.at_
  rw [h1]; simp
def T__law_facts : PT1 := fun ds m P => ∃ (b w : Addr) (W : Bk) (n : Nat) (wd : Int), ds = [.ref b, .ref w, .int n, .int wd] ∧ BxAt m b ∧ w ≠ b ∧ WMin m w W ∧ SmallW W ∧ n ≤ 20 ∧
  ∀ fss m', FsOK W fss → fss.length ≤ n → Drawn b m m' → P (.lst (fss.map factD)) m'
theorem p__law_facts (h : T__law_facts ds m P) : s__law_facts K a T__law_claim_row T__law_take (ends1 P) (startG N__law_facts ds) m := by
  obtain ⟨b, w, W, n, wd, rfl, hb, hwb, hW, hs, hn, h⟩ := h
  unfold s__law_facts
  refine seq_step fun R hR => ?_
  walk_at "hbr"
  refine ⟨by decide, fun q hq => ?_⟩
  have hqb : q ≠ b := fun e => hb.there (by rw [← e]; exact hq)
  have hqw : w ≠ q := fun e => hW.there (by rw [e]; exact hq)
  subst hR
  refine seq_step fun R hR => ?_
  walk_at "hbr"
  subst hR
  refine seq_step fun R hR => ?_
  refine for_step fun G hG => ?_
  unfold iRange
  walk_at "hbr"
  refine ⟨n, rfl, by omega, fun i Γ m' => ∃ (fss : List (List Row)) (mn : Int), FsOK W fss ∧ fss.length = i ∧ m' q = some (.lst (fss.map factD)) ∧ BxAt m' b ∧ (∀ x, x ≠ b → x ≠ q → m' x = m x) ∧ ∃ x6 x7, Γ = [some (.ref b), some (.ref w), some (.int (n : Nat)), some (.int wd), some (.ref q), some (.int mn), x6, x7],
    ⟨[], 0, fun x hx => (by cases hx), rfl, mset_same, hb.mset hqb, fun x h1 h2 => mset_ne h2, _, _, rfl⟩, fun _ _ _ _ _ => trivial, ?_, ?_⟩
  · rintro i Γ m' hi ⟨fss, mn, hfs, hfl, hfq, hbx, hfr, x6, x7, rfl⟩
    rw [hG]
    clear hG
    simp only [gN]
    refine seq_step fun R hR => ?_
    walk_at "hbr"
    refine ⟨b, w, W, rfl, hbx, hwb, hW.eq (hfr w hwb hqw), hs, fun r1 m1 hr1 d1 => ⟨by decide, fun q2 hq2 => ?_⟩⟩
    have hq2b : q2 ≠ b := fun e => d1.1.there (by rw [← e]; exact hq2)
    have h1q : m1 q = some (.lst (fss.map factD)) := by rw [d1.2 q hqb]; exact hfq
    have hq2q : q2 ≠ q := fun e => by rw [e, h1q] at hq2; cases hq2
    have h1w : m1 w = m w := by rw [d1.2 w hwb]; exact hfr w hwb hqw
    have hq2w : w ≠ q2 := fun e => hW.there (by rw [← h1w, e]; exact hq2)
    have hmq2 : m q2 = none := by rw [← hfr q2 hq2b hq2q, ← d1.2 q2 hq2b]; exact hq2
    subst hR
    refine seq_step fun R hR => ?_
    have rest : ∀ (rs : List Row) (M : Mem) (mn : Int), rs ≠ [] → rs.length ≤ 3 → (∀ r ∈ rs, Suits W r.2) → M q2 = some (.lst (rs.map rowD)) → BxAt M b → M q = some (.lst (fss.map factD)) → (∀ x, x ≠ b → x ≠ q → x ≠ q2 → M x = m x) → R [some (.ref b), some (.ref w), some (.int (n : Nat)), some (.int wd), some (.ref q), some (.int mn), some (.int (i : Nat)), some (.ref q2)] M := by
      intro rs M mn g1 g2 g3 g4 g5 g6 g7
      rw [hR]
      clear hR
      refine frz_step rfl g4 ?_
      have gq : mdel M q2 q = some (.lst (fss.map factD)) := by rw [mdel_ne (Ne.symm hq2q)]; exact g6
      walk_at "hbr"
      refine ⟨⟨_, gq⟩, _, gq, by rw [List.length_map]; omega, fss ++ [rs], mn, ?_, by simp [hfl], ?_, (g5.mdel hq2b).mset hqb, fun x e1 e2 => ?_, _, _, rfl⟩
      · intro x hx
        rcases List.mem_append.mp hx with hx | hx
        · exact hfs x hx
        · rw [List.mem_singleton.mp hx]; exact ⟨g1, g2, g3⟩
      · rw [mset_same, List.map_append]; rfl
      · rw [mset_ne e2]
        by_cases e3 : x = q2
        · rw [e3, mdel_same, hmq2]
        · rw [mdel_ne e3]; exact g7 x e1 e2 e3
    have s1 : ∀ r ∈ [r1], Suits W r.2 := fun r hr => by rw [List.mem_singleton.mp hr]; exact hr1
    have b1 : BxAt (mset m1 q2 (.lst [rowD r1])) b := d1.1.mset hq2b
    have q1 : mset m1 q2 (.lst [rowD r1]) q = some (.lst (fss.map factD)) := by rw [mset_ne (Ne.symm hq2q)]; exact h1q
    have f1 : ∀ x, x ≠ b → x ≠ q → x ≠ q2 → mset m1 q2 (.lst [rowD r1]) x = m x := fun x e1 e2 e3 => by rw [mset_ne e3, d1.2 x e1]; exact hfr x e1 e2
    have z1 : mset m1 q2 (.lst [rowD r1]) q2 = some (.lst ([r1].map rowD)) := mset_same
    generalize mset m1 q2 (.lst [rowD r1]) = M1 at *
    have w1 : WMin M1 w W := hW.eq (f1 w hwb hqw hq2w)
    clear hR
    refine if_step fun S U hS hU => ?_
    have no : ∀ M, Drawn b M1 M → U [some (.ref b), some (.ref w), some (.int (n : Nat)), some (.int wd), some (.ref q), some (.int mn), some (.int (i : Nat)), some (.ref q2)] M := fun M d => by
      rw [hU]
      exact rest [r1] M mn (by simp) (by simp) s1 (by rw [d.2 q2 hq2b]; exact z1) d.1 (by rw [d.2 q hqb]; exact q1) fun x e1 e2 e3 => by rw [d.2 x e1]; exact f1 x e1 e2 e3
    have yes : ∀ M, Drawn b M1 M → S [some (.ref b), some (.ref w), some (.int (n : Nat)), some (.int wd), some (.ref q), some (.int mn), some (.int (i : Nat)), some (.ref q2)] M := fun M d => by
      rw [hS]
      clear hS hU no
      have zM : M q2 = some (.lst ([r1].map rowD)) := by rw [d.2 q2 hq2b]; exact z1
      refine seq_step fun R' hR' => ?_
      walk_at "hbr"
      refine ⟨⟨_, zM⟩, b, w, W, rfl, d.1, hwb, w1.drawn d hwb, hs, fun r2 m2 hr2 d2 => ?_⟩
      have z2 : m2 q2 = some (.lst ([r1].map rowD)) := by rw [d2.2 q2 hq2b]; exact zM
      have d12 := d.trans d2
      have s2 : ∀ r ∈ [r1, r2], Suits W r.2 := fun r hr => by
        rcases List.mem_cons.mp hr with rfl | hr
        · exact hr1
        · rw [List.mem_singleton.mp hr]; exact hr2
      walk_at "hbr"
      refine ⟨_, z2, by simp, ?_⟩
      have z3 : mset m2 q2 (.lst ([r1].map rowD ++ [rowD r2])) q2 = some (.lst ([r1, r2].map rowD)) := mset_same
      have b3 : BxAt (mset m2 q2 (.lst ([r1].map rowD ++ [rowD r2]))) b := d2.1.mset hq2b
      have q3 : mset m2 q2 (.lst ([r1].map rowD ++ [rowD r2])) q = some (.lst (fss.map factD)) := by rw [mset_ne (Ne.symm hq2q), d12.2 q hqb]; exact q1
      have f3 : ∀ x, x ≠ b → x ≠ q → x ≠ q2 → mset m2 q2 (.lst ([r1].map rowD ++ [rowD r2])) x = m x := fun x e1 e2 e3 => by rw [mset_ne e3, d12.2 x e1]; exact f1 x e1 e2 e3
      generalize mset m2 q2 (.lst ([r1].map rowD ++ [rowD r2])) = M3 at *
      have w3 : WMin M3 w W := hW.eq (f3 w hwb hqw hq2w)
      subst hR'
      refine seq_step fun R' hR' => ?_
      walk_at "hbr"
      subst hR'
      refine if_step fun S U hS hU => ?_
      have no : ∀ M, Drawn b M3 M → U [some (.ref b), some (.ref w), some (.int (n : Nat)), some (.int wd), some (.ref q), some (.int (mn + 1)), some (.int (i : Nat)), some (.ref q2)] M := fun M d => by
        rw [hU]
        exact rest [r1, r2] M (mn + 1) (by simp) (by simp) s2 (by rw [d.2 q2 hq2b]; exact z3) d.1 (by rw [d.2 q hqb]; exact q3) fun x e1 e2 e3 => by rw [d.2 x e1]; exact f3 x e1 e2 e3
      have yes : ∀ M, Drawn b M3 M → S [some (.ref b), some (.ref w), some (.int (n : Nat)), some (.int wd), some (.ref q), some (.int (mn + 1)), some (.int (i : Nat)), some (.ref q2)] M := fun M d => by
        rw [hS]
        clear hS hU no
        have zM : M q2 = some (.lst ([r1, r2].map rowD)) := by rw [d.2 q2 hq2b]; exact z3
        walk_at "hbr"
        refine ⟨⟨_, zM⟩, b, w, W, rfl, d.1, hwb, w3.drawn d hwb, hs, fun r3 m4 hr3 d4 => ?_⟩
        have z4 : m4 q2 = some (.lst ([r1, r2].map rowD)) := by rw [d4.2 q2 hq2b]; exact zM
        have d34 := d.trans d4
        walk_at "hbr"
        refine ⟨_, z4, by simp, rest [r1, r2, r3] _ (mn + 1) (by simp) (by simp) ?_ mset_same (d4.1.mset hq2b) ?_ fun x e1 e2 e3 => ?_⟩
        · intro r hr
          simp only [List.mem_cons, List.not_mem_nil, or_false] at hr
          rcases hr with rfl | rfl | rfl
          · exact hr1
          · exact hr2
          · exact hr3
        · rw [mset_ne (Ne.symm hq2q), d34.2 q hqb]; exact q3
        · rw [mset_ne e3, d34.2 x e1]; exact f3 x e1 e2 e3
      clear hS hU
      walk_at "hbr"
      refine take_do (n := 4) b3 (by decide) (by decide) fun t m5 ht d5 => ?_
      walk_at "hbr"
      cases decide ((t : Int) = 1) with
      | true => exact yes m5 d5
      | false => exact no m5 d5
    clear hS hU
    walk_at "hbr"
    refine take_do (n := 3) b1 (by decide) (by decide) fun t m5 ht d5 => ?_
    walk_at "hbr"
    cases decide ((t : Int) = 1) with
    | true =>
      walk_at "hbr"
      cases decide (mn < wd) with
      | true => exact yes m5 d5
      | false => exact no m5 d5
    | false => exact no m5 d5
  · rintro Γ m' ⟨fss, mn, hfs, hfl, hfq, hbx, hfr, x6, x7, rfl⟩
    clear hG
    subst hR
    refine frz_step rfl hfq ?_
    walk_at "hbr"
    exact endN (h fss _ hfs (by omega) ⟨hbx.mdel hqb, fun x hx => by
      by_cases e : x = q
      · rw [e, mdel_same, hq]
      · rw [mdel_ne e]; exact hfr x hx e⟩)
end
set_option Elab.async false
set_option linter.all false
set_option maxRecDepth 100000
set_option maxHeartbeats 4000000
section
open PySem L2 TL
variable {K : PySem.W.Frag} {a : Ad} {ds : List D} {m m' m'' : Mem} {P : PD} {k : BkA} {B : Bk}
/-! the world made -/
theorem ns_getElem {A : Type} {xs : List A} {x : A} (h : x ∈ xs) : ∃ i : Nat, xs[i]? = some x := by
  obtain ⟨i, hi, e⟩ := List.mem_iff_getElem.mp h
  exact ⟨i, by rw [List.getElem?_eq_getElem hi, e]⟩
def T__law_made : PT1 := fun ds m P => ∃ b : Addr, ds = [.ref b, .lst [.int 5, .int 29, .int 7, .int 4, .int 2], .lst [.int 2, .int 3]] ∧ BxAt m b ∧
  ∀ (W : Bk) w m', m w = none → w ≠ b → WOK W → WdAt m' w none W → BxAt m' b → (∀ x, x ≠ b → x ≠ w → m' x = m x) → P (.ref w) m'
theorem p__law_made (h : T__law_made ds m P) : s__law_made K a T__law_names T__law_take T__law_meetings T__law_changes T__law_facts (ends1 P) (startG N__law_made ds) m := by
  obtain ⟨b, rfl, hb, h⟩ := h
  have nd : (["people", "versions", "last", "meetings", "turns", "facts", "limits"] : List Str).Nodup := by decide +kernel
  unfold s__law_made
  refine seq_step fun R hR => ?_
  unfold sDict1
  walk_at "hbr"
  intro w hw
  have hwb : w ≠ b := fun e => hb.there (by rw [← e]; exact hw)
  refine take_do (n := 5) (hb.mset hwb) (by decide) (by decide) fun n1 m1 hn1 d1 => ?_
  walk_at "hbr"
  have e1 : (1 + (n1 : Int)) = ((1 + n1 : Nat) : Int) := by omega
  rw [e1]
  refine ⟨b, 1 + n1, rfl, d1.1, by omega, fun pp m2 pl pn pd d2 => ⟨?_, ?_⟩⟩
  · rw [d2.2 w hwb, d1.2 w hwb]; exact mset_same
  have f2 : ∀ x, x ≠ b → x ≠ w → mset m2 w (.dic [("people", .lst (pp.map .str))]) x = m x := fun x x1 x2 => by rw [mset_ne x2, d2.2 x x1, d1.2 x x1, mset_ne x2]
  have b2 : BxAt (mset m2 w (.dic [("people", .lst (pp.map .str))])) b := d2.1.mset hwb
  have w2 : mset m2 w (.dic [("people", .lst (pp.map .str))]) w = some (.dic [("people", .lst (pp.map .str))]) := mset_same
  generalize mset m2 w (.dic [("people", .lst (pp.map .str))]) = M at *
  clear d1 d2
  subst hR
  refine seq_step fun R hR => ?_
  walk_at "hbr"
  refine take_do (n := 2) b2 (by decide) (by decide) fun n2 m1 hn2 d1 => ?_
  walk_at "hbr"
  have e2 : (1 + (n2 : Int)) = ((1 + n2 : Nat) : Int) := by omega
  rw [e2]
  refine ⟨b, 1 + n2, rfl, d1.1, by omega, fun vs m2 vl vn vd d2 => ?_⟩
  have hw2 : m2 w = some (.dic [("people", .lst (pp.map .str))]) := by rw [d2.2 w hwb, d1.2 w hwb]; exact w2
  refine ⟨w, _, "versions", rfl, rfl, hw2, (by simp only [List.map_cons, List.map_nil]; decide +kernel), by simp, ?_⟩
  have ep : putD "versions" (.lst (vs.map .str)) [("people", .lst (pp.map .str))] = ([("people", D.lst (pp.map .str)), ("versions", .lst (vs.map .str))] : List (Str × D)) := rfl
  rw [ep]
  have f3 : ∀ x, x ≠ b → x ≠ w → mset m2 w (.dic [("people", .lst (pp.map .str)), ("versions", .lst (vs.map .str))]) x = m x := fun x x1 x2 => by rw [mset_ne x2, d2.2 x x1, d1.2 x x1]; exact f2 x x1 x2
  have b3 : BxAt (mset m2 w (.dic [("people", .lst (pp.map .str)), ("versions", .lst (vs.map .str))])) b := d2.1.mset hwb
  have w3 : mset m2 w (.dic [("people", .lst (pp.map .str)), ("versions", .lst (vs.map .str))]) w = some (.dic [("people", .lst (pp.map .str)), ("versions", .lst (vs.map .str))]) := mset_same
  generalize mset m2 w (.dic [("people", .lst (pp.map .str)), ("versions", .lst (vs.map .str))]) = M3 at *
  clear d1 d2 b2 w2 f2
  subst hR
  refine seq_step fun R hR => ?_
  walk_at "hbr"
  refine take_do (n := 29) b3 (by decide) (by decide) fun l0 m4 hl0 d4 => ?_
  walk_at "hbr"
  have e3 : (1 + (l0 : Int)) = ((1 + l0 : Nat) : Int) := by omega
  rw [e3]
  obtain ⟨last, hlast⟩ : ∃ last, last = 1 + l0 := ⟨_, rfl⟩
  rw [← hlast]
  have hw4 : m4 w = some (.dic [("people", .lst (pp.map .str)), ("versions", .lst (vs.map .str))]) := by rw [d4.2 w hwb]; exact w3
  refine ⟨w, _, "last", rfl, rfl, hw4, (by simp only [List.map_cons, List.map_nil]; decide +kernel), by simp, ?_⟩
  have ep : putD "last" (.int (last : Nat)) [("people", .lst (pp.map .str)), ("versions", .lst (vs.map .str))] = ([("people", D.lst (pp.map .str)), ("versions", .lst (vs.map .str)), ("last", .int (last : Nat))] : List (Str × D)) := rfl
  rw [ep]
  have f5 : ∀ x, x ≠ b → x ≠ w → mset m4 w (.dic [("people", .lst (pp.map .str)), ("versions", .lst (vs.map .str)), ("last", .int (last : Nat))]) x = m x := fun x x1 x2 => by rw [mset_ne x2, d4.2 x x1]; exact f3 x x1 x2
  have b5 : BxAt (mset m4 w (.dic [("people", .lst (pp.map .str)), ("versions", .lst (vs.map .str)), ("last", .int (last : Nat))])) b := d4.1.mset hwb
  have w5 : mset m4 w (.dic [("people", .lst (pp.map .str)), ("versions", .lst (vs.map .str)), ("last", .int (last : Nat))]) w = some (.dic [("people", .lst (pp.map .str)), ("versions", .lst (vs.map .str)), ("last", .int (last : Nat))]) := mset_same
  generalize mset m4 w (.dic [("people", .lst (pp.map .str)), ("versions", .lst (vs.map .str)), ("last", .int (last : Nat))]) = M5 at *
  clear d4 b3 w3 f3
  subst hR
  refine seq_step fun R hR => ?_
  walk_at "hbr"
  refine take_do (n := 8) b5 (by decide) (by decide) fun cn m6 hcn d6 => ?_
  have w6 : m6 w = some (.dic [("people", .lst (pp.map .str)), ("versions", .lst (vs.map .str)), ("last", .int (last : Nat))]) := by rw [d6.2 w hwb]; exact w5
  have f6 : ∀ x, x ≠ b → x ≠ w → m6 x = m x := fun x x1 x2 => by rw [d6.2 x x1]; exact f5 x x1 x2
  have b6 := d6.1
  clear d6 b5 w5 f5
  subst hR
  refine seq_step fun R hR => ?_
  walk_at "hbr"
  refine q_dget w6 rfl (q_dget w6 rfl ?_)
  refine ⟨b, pp, last, cn, rfl, b6, pd, by omega, by omega, by omega, by omega, by omega, fun ms m7 hms hml hmu d7 => ?_⟩
  have hw7 : m7 w = some (.dic [("people", .lst (pp.map .str)), ("versions", .lst (vs.map .str)), ("last", .int (last : Nat))]) := by rw [d7.2 w hwb]; exact w6
  refine ⟨w, _, "meetings", rfl, rfl, hw7, (by simp only [List.map_cons, List.map_nil]; decide +kernel), by simp, ?_⟩
  have ep : putD "meetings" (.lst (ms.map Mt.d)) [("people", .lst (pp.map .str)), ("versions", .lst (vs.map .str)), ("last", .int (last : Nat))] = ([("people", D.lst (pp.map .str)), ("versions", .lst (vs.map .str)), ("last", .int (last : Nat)), ("meetings", .lst (ms.map Mt.d))] : List (Str × D)) := rfl
  rw [ep]
  have f8 : ∀ x, x ≠ b → x ≠ w → mset m7 w (.dic [("people", .lst (pp.map .str)), ("versions", .lst (vs.map .str)), ("last", .int (last : Nat)), ("meetings", .lst (ms.map Mt.d))]) x = m x := fun x x1 x2 => by rw [mset_ne x2, d7.2 x x1]; exact f6 x x1 x2
  have b8 : BxAt (mset m7 w (.dic [("people", .lst (pp.map .str)), ("versions", .lst (vs.map .str)), ("last", .int (last : Nat)), ("meetings", .lst (ms.map Mt.d))])) b := d7.1.mset hwb
  have w8 : mset m7 w (.dic [("people", .lst (pp.map .str)), ("versions", .lst (vs.map .str)), ("last", .int (last : Nat)), ("meetings", .lst (ms.map Mt.d))]) w = some (.dic [("people", .lst (pp.map .str)), ("versions", .lst (vs.map .str)), ("last", .int (last : Nat)), ("meetings", .lst (ms.map Mt.d))]) := mset_same
  generalize mset m7 w (.dic [("people", .lst (pp.map .str)), ("versions", .lst (vs.map .str)), ("last", .int (last : Nat)), ("meetings", .lst (ms.map Mt.d))]) = M8 at *
  clear d7 b6 w6 f6
  subst hR
  refine seq_step fun R hR => ?_
  walk_at "hbr"
  refine q_dget w8 rfl (q_dget w8 rfl ?_)
  refine take_do (n := 3) b8 (by decide) (by decide) fun cn2 m9 hcn2 d9 => ?_
  refine ⟨b, pp, vs, cn2, rfl, d9.1, pn, vn, vd, by omega, by omega, by omega, by omega, fun ts m10 hts htl d10 => ?_⟩
  have hw10 : m10 w = some (.dic [("people", .lst (pp.map .str)), ("versions", .lst (vs.map .str)), ("last", .int (last : Nat)), ("meetings", .lst (ms.map Mt.d))]) := by rw [d10.2 w hwb, d9.2 w hwb]; exact w8
  refine ⟨w, _, "turns", rfl, rfl, hw10, (by simp only [List.map_cons, List.map_nil]; decide +kernel), by simp, ?_⟩
  have ep : putD "turns" (.lst (ts.map Tn.d)) [("people", .lst (pp.map .str)), ("versions", .lst (vs.map .str)), ("last", .int (last : Nat)), ("meetings", .lst (ms.map Mt.d))] = ([("people", D.lst (pp.map .str)), ("versions", .lst (vs.map .str)), ("last", .int (last : Nat)), ("meetings", .lst (ms.map Mt.d)), ("turns", .lst (ts.map Tn.d))] : List (Str × D)) := rfl
  rw [ep]
  have f11 : ∀ x, x ≠ b → x ≠ w → mset m10 w (.dic [("people", .lst (pp.map .str)), ("versions", .lst (vs.map .str)), ("last", .int (last : Nat)), ("meetings", .lst (ms.map Mt.d)), ("turns", .lst (ts.map Tn.d))]) x = m x := fun x x1 x2 => by rw [mset_ne x2, d10.2 x x1, d9.2 x x1]; exact f8 x x1 x2
  have b11 : BxAt (mset m10 w (.dic [("people", .lst (pp.map .str)), ("versions", .lst (vs.map .str)), ("last", .int (last : Nat)), ("meetings", .lst (ms.map Mt.d)), ("turns", .lst (ts.map Tn.d))])) b := d10.1.mset hwb
  have w11 : mset m10 w (.dic [("people", .lst (pp.map .str)), ("versions", .lst (vs.map .str)), ("last", .int (last : Nat)), ("meetings", .lst (ms.map Mt.d)), ("turns", .lst (ts.map Tn.d))]) w = some (.dic [("people", .lst (pp.map .str)), ("versions", .lst (vs.map .str)), ("last", .int (last : Nat)), ("meetings", .lst (ms.map Mt.d)), ("turns", .lst (ts.map Tn.d))]) := mset_same
  generalize mset m10 w (.dic [("people", .lst (pp.map .str)), ("versions", .lst (vs.map .str)), ("last", .int (last : Nat)), ("meetings", .lst (ms.map Mt.d)), ("turns", .lst (ts.map Tn.d))]) = M11 at *
  clear d9 d10 b8 w8 f8
  subst hR
  refine seq_step fun R hR => ?_
  walk_at "hbr"
  refine ⟨by decide, w, _, "facts", rfl, rfl, w11, (by simp only [List.map_cons, List.map_nil]; decide +kernel), by simp, ?_⟩
  have ep : putD "facts" (.lst []) [("people", .lst (pp.map .str)), ("versions", .lst (vs.map .str)), ("last", .int (last : Nat)), ("meetings", .lst (ms.map Mt.d)), ("turns", .lst (ts.map Tn.d))] = ([("people", D.lst (pp.map .str)), ("versions", .lst (vs.map .str)), ("last", .int (last : Nat)), ("meetings", .lst (ms.map Mt.d)), ("turns", .lst (ts.map Tn.d)), ("facts", .lst [])] : List (Str × D)) := rfl
  rw [ep]
  obtain ⟨W0, hW0⟩ : ∃ W0 : Bk, W0 = ⟨pp, vs, last, ms, ts, [], [], 0⟩ := ⟨_, rfl⟩
  have f12 : ∀ x, x ≠ b → x ≠ w → mset M11 w (.dic [("people", .lst (pp.map .str)), ("versions", .lst (vs.map .str)), ("last", .int (last : Nat)), ("meetings", .lst (ms.map Mt.d)), ("turns", .lst (ts.map Tn.d)), ("facts", .lst [])]) x = m x := fun x x1 x2 => by rw [mset_ne x2]; exact f11 x x1 x2
  have b12 : BxAt (mset M11 w (.dic [("people", .lst (pp.map .str)), ("versions", .lst (vs.map .str)), ("last", .int (last : Nat)), ("meetings", .lst (ms.map Mt.d)), ("turns", .lst (ts.map Tn.d)), ("facts", .lst [])])) b := b11.mset hwb
  have w12 : mset M11 w (.dic [("people", .lst (pp.map .str)), ("versions", .lst (vs.map .str)), ("last", .int (last : Nat)), ("meetings", .lst (ms.map Mt.d)), ("turns", .lst (ts.map Tn.d)), ("facts", .lst [])]) w = some (.dic [("people", .lst (pp.map .str)), ("versions", .lst (vs.map .str)), ("last", .int (last : Nat)), ("meetings", .lst (ms.map Mt.d)), ("turns", .lst (ts.map Tn.d)), ("facts", .lst [])]) := mset_same
  generalize mset M11 w (.dic [("people", .lst (pp.map .str)), ("versions", .lst (vs.map .str)), ("last", .int (last : Nat)), ("meetings", .lst (ms.map Mt.d)), ("turns", .lst (ts.map Tn.d)), ("facts", .lst [])]) = M12 at *
  clear b11 w11 f11
  subst hR
  refine seq_step fun R hR => ?_
  walk_at "hbr"
  refine take_do (n := 5) b12 (by decide) (by decide) fun cn3 m13 hcn3 d13 => ?_
  have w13 : m13 w = some (.dic [("people", .lst (pp.map .str)), ("versions", .lst (vs.map .str)), ("last", .int (last : Nat)), ("meetings", .lst (ms.map Mt.d)), ("turns", .lst (ts.map Tn.d)), ("facts", .lst [])]) := by rw [d13.2 w hwb]; exact w12
  have WM : WMin m13 w W0 := ⟨_, w13, by rw [hW0]; rfl, by rw [hW0]; rfl, by rw [hW0]; rfl, by rw [hW0]; rfl⟩
  refine ⟨b, w, W0, cn3, 2, rfl, d13.1, hwb, WM, by rw [hW0]; exact ⟨by show 1 ≤ pp.length; omega, by show pp.length ≤ 8; omega, by show 1 ≤ vs.length; omega, by show vs.length ≤ 8; omega, by show 1 ≤ last; omega, by show last ≤ 30; omega, by show ms.length ≤ 30; omega⟩, by omega, fun fss m14 hfs hfl d14 => ?_⟩
  have hw14 : m14 w = some (.dic [("people", .lst (pp.map .str)), ("versions", .lst (vs.map .str)), ("last", .int (last : Nat)), ("meetings", .lst (ms.map Mt.d)), ("turns", .lst (ts.map Tn.d)), ("facts", .lst [])]) := by rw [d14.2 w hwb]; exact w13
  refine ⟨w, _, "facts", rfl, rfl, hw14, (by simp only [List.map_cons, List.map_nil]; decide +kernel), by simp, ?_⟩
  have ep : putD "facts" (.lst (fss.map factD)) [("people", .lst (pp.map .str)), ("versions", .lst (vs.map .str)), ("last", .int (last : Nat)), ("meetings", .lst (ms.map Mt.d)), ("turns", .lst (ts.map Tn.d)), ("facts", .lst [])] = ([("people", D.lst (pp.map .str)), ("versions", .lst (vs.map .str)), ("last", .int (last : Nat)), ("meetings", .lst (ms.map Mt.d)), ("turns", .lst (ts.map Tn.d)), ("facts", .lst (fss.map factD))] : List (Str × D)) := rfl
  rw [ep]
  have f15 : ∀ x, x ≠ b → x ≠ w → mset m14 w (.dic [("people", .lst (pp.map .str)), ("versions", .lst (vs.map .str)), ("last", .int (last : Nat)), ("meetings", .lst (ms.map Mt.d)), ("turns", .lst (ts.map Tn.d)), ("facts", .lst (fss.map factD))]) x = m x := fun x x1 x2 => by rw [mset_ne x2, d14.2 x x1, d13.2 x x1]; exact f12 x x1 x2
  have b15 : BxAt (mset m14 w (.dic [("people", .lst (pp.map .str)), ("versions", .lst (vs.map .str)), ("last", .int (last : Nat)), ("meetings", .lst (ms.map Mt.d)), ("turns", .lst (ts.map Tn.d)), ("facts", .lst (fss.map factD))])) b := d14.1.mset hwb
  have w15 : mset m14 w (.dic [("people", .lst (pp.map .str)), ("versions", .lst (vs.map .str)), ("last", .int (last : Nat)), ("meetings", .lst (ms.map Mt.d)), ("turns", .lst (ts.map Tn.d)), ("facts", .lst (fss.map factD))]) w = some (.dic [("people", .lst (pp.map .str)), ("versions", .lst (vs.map .str)), ("last", .int (last : Nat)), ("meetings", .lst (ms.map Mt.d)), ("turns", .lst (ts.map Tn.d)), ("facts", .lst (fss.map factD))]) := mset_same
  generalize mset m14 w (.dic [("people", .lst (pp.map .str)), ("versions", .lst (vs.map .str)), ("last", .int (last : Nat)), ("meetings", .lst (ms.map Mt.d)), ("turns", .lst (ts.map Tn.d)), ("facts", .lst (fss.map factD))]) = M15 at *
  clear d13 d14 b12 w12 f12
  subst hR
  refine seq_step fun R hR => ?_
  walk_at "hbr"
  refine ⟨by decide, w, _, "limits", rfl, rfl, w15, (by simp only [List.map_cons, List.map_nil]; decide +kernel), by simp, ?_⟩
  subst hR
  walk_at "hbr"
  refine endN (h ⟨pp, vs, last, ms, ts, fss, [some 1, none, none, none], 0⟩ w _ hw hwb ?_ ⟨_, mset_same, rfl⟩ (b15.mset hwb) fun x x1 x2 => by rw [mset_ne x2]; exact f15 x x1 x2)
  refine ⟨⟨pn, pd, by show 1 ≤ pp.length; omega, by show pp.length ≤ 8; omega, vn, vd, by show 1 ≤ vs.length; omega, by show vs.length ≤ 3; omega, by show 1 ≤ last; omega, by show last ≤ 30; omega⟩, by show ms.length ≤ 7; omega, hms, by show unsures ms ≤ 6; omega, by show ts.length ≤ 6; omega, hts.2, hts.1, by show fss.length ≤ 4; omega, ?_, rfl, ?_⟩
  · intro rs hrs
    have := hfs rs hrs
    rw [hW0] at this
    refine ⟨this.1, this.2.1, fun r hr => ?_⟩
    have := this.2.2 r hr
    generalize r.2 = c at *
    cases c <;> exact this
  · intro c hc
    simp only [List.mem_cons, List.not_mem_nil, or_false] at hc
    rcases hc with rfl | rfl | rfl | rfl
    · show 1 ≤ 24; decide
    · trivial
    · trivial
    · trivial
def T__law_world : PT1 := fun ds m P => ∃ b : Addr, ds = [.ref b, .int 5, .int 29, .int 7, .int 4, .int 2] ∧ BxAt m b ∧
  ∀ (W : Bk) w m', m w = none → w ≠ b → WOK W → WdAt m' w none W → BxAt m' b → (∀ x, x ≠ b → x ≠ w → m' x = m x) → P (.ref w) m'
theorem p__law_world (h : T__law_world ds m P) : s__law_world K a T__law_made (ends1 P) (startG N__law_world ds) m := by
  obtain ⟨b, rfl, hb, h⟩ := h
  unfold s__law_world
  walk_at "hbr"
  refine ⟨by decide, by decide, b, rfl, hb, fun W w m' h1 h2 h3 h4 h5 h6 => endN (h W w m' h1 h2 h3 h4 h5 h6)⟩
end
set_option Elab.async false
set_option linter.all false
set_option maxRecDepth 100000
set_option maxHeartbeats 4000000
section
open PySem L2 TL
variable {K : PySem.W.Frag} {a : Ad} {ds : List D} {m m' m'' : Mem} {P : PD} {k : BkA} {B : Bk}
/-! the world's limits -/
theorem q_ix_ref {c : Addr} {i : Nat} {es : List D} {d : D} {Q : PD} (h1 : m c = some (.lst es)) (h2 : es[i]? = some d) (h : Q d m) : rhoIx (.ref c) (.int (i : Nat)) m Q := ⟨i, es, d, rfl, h1, h2, h⟩
def T__law_limits : PT1 := fun ds m P => ∃ (b w : Addr) (W : Bk), ds = [.ref b, .ref w] ∧ BxAt m b ∧ w ≠ b ∧ WdAt m w none W ∧
  ∀ l (ls : List (Option Nat)) m', m l = none → l ≠ b → l ≠ w → ls.length = 4 → (∀ c ∈ ls, OptN (· ≤ 24) c) → WdAt m' w (some l) { W with limits := ls } → BxAt m' b → (∀ x, x ≠ b → x ≠ w → x ≠ l → m' x = m x) → P .non m'
theorem p__law_limits (h : T__law_limits ds m P) : s__law_limits K a T__law_take (ends1 P) (startG N__law_limits ds) m := by
  obtain ⟨b, w, W, rfl, hb, hwb, ⟨dl, hw, hdl⟩, h⟩ := h
  unfold s__law_limits
  refine seq_step fun R hR => ?_
  walk_at "hbr"
  refine ⟨by decide, ?_⟩
  refine take_do (n := 4) hb (by decide) (by decide) fun j m1 hj d1 => ?_
  obtain ⟨c, hc, hcb⟩ : ∃ c : Option Nat, ([D.int 1, .int 1, .int 2, .non] : List D)[j]? = some (oN c) ∧ OptN (· ≤ 24) c := by
    match j, hj with
    | 0, _ => exact ⟨some 1, rfl, by show 1 ≤ 24; decide⟩
    | 1, _ => exact ⟨some 1, rfl, by show 1 ≤ 24; decide⟩
    | 2, _ => exact ⟨some 2, rfl, by show 2 ≤ 24; decide⟩
    | 3, _ => exact ⟨none, rfl, trivial⟩
  walk_at "hbr"
  refine ⟨_, hc, by simp, fun l hl => ?_⟩
  obtain ⟨dc, hdc⟩ : ∃ d, d = oN c := ⟨_, rfl⟩
  rw [← hdc]
  have hw1 : m1 w = some (.dic (worldKv W dl)) := by rw [d1.2 w hwb]; exact hw
  have hlb : l ≠ b := fun e => d1.1.there (by rw [← e]; exact hl)
  have hlw : l ≠ w := fun e => by rw [e, hw1] at hl; cases hl
  have hml : m l = none := by rw [← d1.2 l hlb]; exact hl
  refine ⟨w, _, "limits", rfl, rfl, by rw [mset_ne (Ne.symm hlw)]; exact hw1, ?_, ?_, ?_⟩
  · show (["people", "versions", "last", "meetings", "turns", "facts", "limits"] : List Str).Nodup
    decide +kernel
  · show 7 < 900
    decide
  have ep : putD "limits" (.ref l) (worldKv W dl) = worldKv W (.ref l) := rfl
  rw [ep]
  have b2 : BxAt (mset (mset m1 l (.lst [dc, .non, .non, .non])) w (.dic (worldKv W (.ref l)))) b := (d1.1.mset hlb).mset hwb
  have w2 : mset (mset m1 l (.lst [dc, .non, .non, .non])) w (.dic (worldKv W (.ref l))) w = some (.dic (worldKv W (.ref l))) := mset_same
  have l2 : mset (mset m1 l (.lst [dc, .non, .non, .non])) w (.dic (worldKv W (.ref l))) l = some (.lst [dc, .non, .non, .non]) := by rw [mset_ne hlw]; exact mset_same
  have f2 : ∀ x, x ≠ b → x ≠ w → x ≠ l → mset (mset m1 l (.lst [dc, .non, .non, .non])) w (.dic (worldKv W (.ref l))) x = m x := fun x x1 x2 x3 => by rw [mset_ne x2, mset_ne x3]; exact d1.2 x x1
  generalize mset (mset m1 l (.lst [dc, .non, .non, .non])) w (.dic (worldKv W (.ref l))) = M at *
  subst hR
  refine seq_step fun R hR => ?_
  walk_at "hbr"
  refine take_do (n := 5) b2 (by decide) (by decide) fun wh m3 hwh d3 => ?_
  have w3 : m3 w = some (.dic (worldKv W (.ref l))) := by rw [d3.2 w hwb]; exact w2
  have l3 : m3 l = some (.lst [dc, .non, .non, .non]) := by rw [d3.2 l hlb]; exact l2
  have f3 : ∀ x, x ≠ b → x ≠ w → x ≠ l → m3 x = m x := fun x x1 x2 x3 => by rw [d3.2 x x1]; exact f2 x x1 x2 x3
  have fin : ∀ (ls : List (Option Nat)) (m4 : Mem), ls.length = 4 → (∀ c ∈ ls, OptN (· ≤ 24) c) → m4 w = some (.dic (worldKv W (.ref l))) → m4 l = some (.lst (ls.map oN)) → BxAt m4 b → (∀ x, x ≠ b → x ≠ w → x ≠ l → m4 x = m x) → ∃ m'', Le m'' m4 ∧ P .non m'' := fun ls m4 g1 g2 g3 g4 g5 g6 =>
    endN (h l ls m4 hml hlb hlw g1 g2 ⟨_, g3, rfl, hlw, g4⟩ g5 g6)
  have none3 : ∀ x ∈ [c, none, none, none], OptN (· ≤ 24) x := fun x hx => by
    simp only [List.mem_cons, List.not_mem_nil, or_false] at hx
    rcases hx with rfl | rfl | rfl | rfl
    · exact hcb
    · trivial
    · trivial
    · trivial
  have l3' : m3 l = some (.lst ([c, none, none, none].map oN)) := by rw [l3, hdc]; rfl
  subst hR
  refine if_step fun S U hS hU => ?_
  have no : U [some (.ref b), some (.ref w), some (.int (wh : Nat)), none] m3 := by
    rw [hU]
    walk_at "hbr"
    exact fin _ m3 rfl none3 w3 l3' d3.1 f3
  walk_at "hbr"
  by_cases c1 : (0 : Int) < (wh : Int)
  · rw [decide_eq_true c1]
    walk_at "hbr"
    by_cases c2 : (wh : Int) < 4
    · rw [decide_eq_true c2]
      show S _ _
      rw [hS]
      clear hS hU no
      refine seq_step fun R hR => ?_
      walk_at "hbr"
      refine q_dget w3 rfl ?_
      subst hR
      refine seq_step fun R hR => ?_
      unfold sSubSet
      walk_at "hbr"
      refine take_do (n := 3) d3.1 (by decide) (by decide) fun v m4 hv d4 => ?_
      have w4 : m4 w = some (.dic (worldKv W (.ref l))) := by rw [d4.2 w hwb]; exact w3
      have l4 : m4 l = some (.lst [dc, .non, .non, .non]) := by rw [d4.2 l hlb]; exact l3
      refine ⟨l, _, wh, rfl, rfl, l4, by show wh < 4; omega, ?_⟩
      obtain ⟨ls, hls1, hls2, hls3, hls4⟩ : ∃ ls : List (Option Nat), ([dc, .non, .non, .non] : List D).set wh (.int (v : Nat)) = ls.map oN ∧ ls.length = 4 ∧ (∀ c ∈ ls, OptN (· ≤ 24) c) ∧ ls[0]? = some c := by
        refine ⟨[c, none, none, none].set wh (some v), ?_, ?_, ?_, ?_⟩
        · rw [List.map_set, hdc]; rfl
        · rw [List.length_set]; rfl
        · intro x hx
          rcases List.mem_or_eq_of_mem_set hx with hx | hx
          · exact none3 x hx
          · rw [hx]; show v ≤ 24; omega
        · rw [List.getElem?_set_ne (by omega)]; rfl
      rw [hls1]
      have w5 : mset m4 l (.lst (ls.map oN)) w = some (.dic (worldKv W (.ref l))) := by rw [mset_ne (Ne.symm hlw)]; exact w4
      have b5 : BxAt (mset m4 l (.lst (ls.map oN))) b := d4.1.mset hlb
      have f5 : ∀ x, x ≠ b → x ≠ w → x ≠ l → mset m4 l (.lst (ls.map oN)) x = m x := fun x x1 x2 x3 => by rw [mset_ne x3, d4.2 x x1]; exact f3 x x1 x2 x3
      have i0 : (ls.map oN)[0]? = some dc := by rw [List.getElem?_map, hls4, hdc]; rfl
      subst hR
      refine if_step fun S U hS hU => ?_
      have no : U [some (.ref b), some (.ref w), some (.int (wh : Nat)), some (.ref l)] (mset m4 l (.lst (ls.map oN))) := by
        rw [hU]
        walk_at "hbr"
        exact fin ls _ hls2 hls3 w5 mset_same b5 f5
      have yes : S [some (.ref b), some (.ref w), some (.int (wh : Nat)), some (.ref l)] (mset m4 l (.lst (ls.map oN))) := by
        rw [hS]
        unfold sSubSet
        walk_at "hbr"
        refine ⟨l, _, 0, rfl, rfl, mset_same, by rw [List.length_map]; omega, ?_⟩
        rw [mset_mset]
        have e : (ls.map oN).set 0 (.int 1) = (ls.set 0 (some 1)).map oN := by rw [List.map_set]; rfl
        rw [e]
        refine fin (ls.set 0 (some 1)) _ (by rw [List.length_set]; exact hls2) ?_ (by rw [mset_ne (Ne.symm hlw)]; exact w4) mset_same (d4.1.mset hlb) fun x x1 x2 x3 => by rw [mset_ne x3, d4.2 x x1]; exact f3 x x1 x2 x3
        intro x hx
        rcases List.mem_or_eq_of_mem_set hx with hx | hx
        · exact hls3 x hx
        · rw [hx]; show 1 ≤ 24; decide
      clear hS hU
      walk_at "hbr"
      refine ⟨_, mset_same, dc, i0, ?_⟩
      cases c with
      | none =>
        have hdc : dc = .non := hdc
        subst hdc
        walk_at "hbr"
        exact no
      | some n =>
        have hdc : dc = .int n := hdc
        subst hdc
        walk_at "hbr"
        by_cases c3 : (n : Int) = 2
        · rw [decide_eq_true c3]; exact yes
        · rw [decide_eq_false c3]; exact no
    · rw [decide_eq_false c2]
      exact no
  · rw [decide_eq_false c1]
    exact no
end
set_option Elab.async false
set_option linter.all false
set_option maxRecDepth 100000
set_option maxHeartbeats 4000000
section
open PySem L2 TL
variable {K : PySem.W.Frag} {a : Ad} {ds : List D} {m m' m'' : Mem} {P : PD} {k : BkA} {B : Bk}
def T__law_text : PT1 := fun ds m P => ∃ r : Row, ds = [rowD r] ∧ r.2.ok ∧ P (.str (rowText r)) m
theorem p__law_text (h : T__law_text ds m P) : s__law_text K a (ends1 P) (startG N__law_text ds) m := by
  obtain ⟨r, rfl, hr, h⟩ := h
  unfold s__law_text
  obtain ⟨b, c⟩ := r
  have hl := len_le c
  have hle := len_eq c
  obtain ⟨pre, hpre⟩ : ∃ pre : List Str, pre = (if b = true then ([] : List Str) else ["not"]) := ⟨_, rfl⟩
  have hrt : rowText (b, c) = Txt.join " " (pre ++ c.strs) := by rw [hpre]; rfl
  have hsum : ((pre ++ c.strs).map (·.length)).sum + (pre ++ c.strs).length * (" " : Str).length ≤ 16777216 := by
    have h1 := sum_le (k := 10) (ws := pre ++ c.strs) (by rw [hpre]; exact row_len (r := (b, c)) hr)
    have h2 : (pre ++ c.strs).length ≤ 6 := by rw [hpre]; exact row_count (b, c)
    have h3 : (" " : Str).length = 1 := by decide +kernel
    rw [h3]
    omega
  rw [hrt] at h
  have hrow : rowD (b, c) = .tup [.bl b, .tup c.words] := rfl
  rw [hrow]
  refine seq_step fun R hR => ?_
  walk_at "hbr"
  refine ⟨by decide, fun p hp => ?_⟩
  subst hR
  refine seq_step fun R hR => ?_
  have rest : R [some (.tup [.bl b, .tup c.words]), some (.ref p), none, none] (mset m p (.lst (pre.map .str))) := by
    rw [hR]
    clear hR
    refine seq_step fun R hR => ?_
    refine for_step fun G hG => ?_
    unfold iRange
    walk_at "hbr"
    refine ⟨c.words.length, rfl, by omega, fun i Γ m' => m' = mset m p (.lst ((pre ++ c.strs.take i).map .str)) ∧ ∃ x y, Γ = [some (.tup [.bl b, .tup c.words]), some (.ref p), x, y], ⟨by simp, _, _, rfl⟩, fun _ _ _ _ _ => trivial, ?_, ?_⟩
    · rintro i Γ m' hi ⟨rfl, x, y, rfl⟩
      rw [hG]
      clear hG
      obtain ⟨d, t, e1, e2, e3⟩ := word_at hr hi
      have ew : c.words[i]? = some d := by
        rw [← e1]; unfold dget; rw [List.getD_eq_getElem?_getD, List.getElem?_eq_getElem hi]; rfl
      have happ : MO.lst ((pre ++ c.strs.take i).map D.str ++ [D.str t]) = MO.lst ((pre ++ c.strs.take (i + 1)).map .str) := by
        rw [List.take_succ, e2]
        simp
      have hsz : ((pre ++ c.strs.take i).map D.str).length < 1000000 := by
        have hp2 : pre.length ≤ 1 := by rw [hpre]; split <;> simp
        rw [List.length_map, List.length_append, List.length_take]
        omega
      have fin : mset (mset m p (.lst ((pre ++ c.strs.take i).map .str))) p (.lst ((pre ++ c.strs.take i).map .str ++ [.str t])) = mset m p (.lst ((pre ++ c.strs.take (i + 1)).map .str)) := by
        rw [mset_mset]; exact congrArg _ happ
      simp only [gN]
      refine seq_step fun R hR => ?_
      walk_at "hbr"
      refine ⟨d, ew, ?_⟩
      subst hR
      rcases e3 with ⟨rfl, q⟩ | rfl | ⟨n, rfl, rfl, hn⟩
      · refine if_step fun S U hS hU => ?_
        have no : t = "any" → U [some (.tup [.bl b, .tup c.words]), some (.ref p), some (.int (i : Nat)), some .non] (mset m p (.lst ((pre ++ c.strs.take i).map .str))) := fun ht => by
          rw [hU]
          walk_at "hbr"
          rw [ht] at fin
          exact ⟨⟨_, mset_same⟩, _, mset_same, hsz, fin, _, _, rfl⟩
        have yes : t = "end" → S [some (.tup [.bl b, .tup c.words]), some (.ref p), some (.int (i : Nat)), some .non] (mset m p (.lst ((pre ++ c.strs.take i).map .str))) := fun ht => by
          rw [hS]
          walk_at "hbr"
          rw [ht] at fin
          exact ⟨⟨_, mset_same⟩, _, mset_same, hsz, fin, _, _, rfl⟩
        clear hS hU
        walk_at "hbr"
        refine ⟨.str c.kind, words_0 c, ?_⟩
        walk_at "hbr"
        rcases q with ⟨k1, k2, k3⟩ | ⟨k1, k2⟩
        · rw [decide_eq_true k1]
          walk_at "hbr"
          rw [decide_eq_true (by omega : (i : Int) = 4)]
          exact yes k3
        · by_cases k3 : c.kind = "told"
          · rw [decide_eq_true k3]
            walk_at "hbr"
            rw [decide_eq_false (fun k4 : (i : Int) = 4 => k1 ⟨k3, by omega⟩)]
            exact no k2
          · rw [decide_eq_false k3]
            exact no k2
      · walk_at "hbr"
        exact ⟨⟨_, mset_same⟩, _, mset_same, hsz, fin, _, _, rfl⟩
      · walk_at "hbr"
        exact ⟨⟨_, mset_same⟩, by omega, _, mset_same, hsz, fin, _, _, rfl⟩
    · rintro Γ m' ⟨rfl, x, y, rfl⟩
      clear hG
      subst hR
      walk_at "hbr"
      refine ⟨pre ++ c.strs, ?_, hsum, m, Le.new Le.refl hp, h⟩
      rw [mset_same, ← hle, List.take_length]
  clear hR
  cases b with
  | true =>
    have hpre : pre = [] := hpre
    subst hpre
    walk_at "hbr"
    exact rest
  | false =>
    have hpre : pre = [("not" : Str)] := hpre
    subst hpre
    walk_at "hbr"
    refine ⟨⟨_, mset_same⟩, _, mset_same, by simp, ?_⟩
    rw [mset_mset]
    exact rest
/-! claims made -/
def T_sub (C : Addr) (n : Nat) (kw : Str) : PT1 := fun ds m P => ∃ p args, ds = .ref p :: args ∧ args.length = n ∧ m p = some (.ins C []) ∧ P .non (mset m p (.ins C [("words", .tup (.str kw :: args)), ("positive", .bl true)]))
theorem make_sub {C : Addr} {n : Nat} {kw : Str} {args : List D} {Q : PD} (hn : args.length = n) (hq : Q (.obj C ["words", "positive"] [.tup (.str kw :: args), .bl true]) m) : mkP C (T_sub C n kw) args m Q := by
  intro p hp
  refine ⟨p, args, rfl, hn, mset_same, rfl, _, m, ?_, hq⟩
  rw [mset_mset]
  exact Gh.obj hp
def T__law_claim (a : Ad) : PT1 := fun ds m P => ∃ r : Row, ds = [rowD r] ∧ ∀ d, IsCl a d r → P d m
theorem p__law_claim (h : T__law_claim a ds m P) : s__law_claim K a (T_sub (a.g "Knew") 3 "knew") (T_sub (a.g "Told") 4 "told") (T_sub (a.g "Began") 2 "began") (T_sub (a.g "Held") 1 "held") (T_sub (a.g "Turned") 3 "turned") (T_Claim_invert a) (ends1 P) (startG N__law_claim ds) m := by
  obtain ⟨⟨b, c⟩, rfl, h⟩ := h
  have hrow : rowD (b, c) = .tup [.bl b, .tup c.words] := rfl
  rw [hrow]
  have ne : ("told" : Str) ≠ "knew" ∧ ("began" : Str) ≠ "knew" ∧ ("held" : Str) ≠ "knew" ∧ ("turned" : Str) ≠ "knew" ∧ ("began" : Str) ≠ "told" ∧ ("held" : Str) ≠ "told" ∧ ("turned" : Str) ≠ "told" ∧ ("held" : Str) ≠ "began" ∧ ("turned" : Str) ≠ "began" ∧ ("turned" : Str) ≠ "held" := by decide +kernel
  obtain ⟨n1, n2, n3, n4, n5, n6, n7, n8, n9, n10⟩ := ne
  unfold s__law_claim
  refine seq_step fun R hR => ?_
  walk_at "hbr"
  subst hR
  refine seq_step fun R hR => ?_
  have rest : ∀ C, GClaim a C → R [some (.tup [.bl b, .tup c.words]), some (.tup c.words), some (clD C (true, c))] m := by
    intro C hC
    rw [hR]
    clear hR
    refine seq_step fun R hR => ?_
    cases b with
    | true =>
      walk_at "hbr"
      exact endN (h _ ⟨C, hC, rfl⟩)
    | false =>
      walk_at "hbr"
      subst hR
      unfold sInv
      walk_at "hbr"
      refine ⟨?_, clD C (true, c), (true, c), rfl, ⟨C, hC, rfl⟩, endN (h _ ⟨_, .inl rfl, rfl⟩)⟩
      obtain ⟨C', hC', ho⟩ := asO_cl (m := m) (a := a) (d := clD C (true, c)) (r := (true, c)) ⟨C, hC, rfl⟩
      exact ⟨C', _, ho, hC'⟩
  clear hR
  have hw := words_0 c
  cases c with
  | knew p d v =>
    simp only [Cl.words] at rest ⊢
    refine if_step fun S U hS hU => ?_
    walk_at "hbr"
    rw [hS]
    unfold sMake
    walk_at "hbr"
    exact make_sub (by simp) (rest _ (.inr (.inl rfl)))
  | told t g f l =>
    simp only [Cl.words] at rest ⊢
    refine if_step fun S U hS hU => ?_
    walk_at "hbr"
    rw [decide_eq_false n1]
    walk_at "hbr"
    rw [hU]
    refine if_step fun S U hS hU => ?_
    walk_at "hbr"
    rw [hS]
    unfold sMake
    walk_at "hbr"
    exact make_sub (by simp) (rest _ (.inr (.inr (.inl rfl))))
  | began p v =>
    simp only [Cl.words] at rest ⊢
    refine if_step fun S U hS hU => ?_
    walk_at "hbr"
    rw [decide_eq_false n2]
    walk_at "hbr"
    rw [hU]
    refine if_step fun S U hS hU => ?_
    walk_at "hbr"
    rw [decide_eq_false n5]
    walk_at "hbr"
    rw [hU]
    refine if_step fun S U hS hU => ?_
    walk_at "hbr"
    rw [hS]
    unfold sMake
    walk_at "hbr"
    exact make_sub (by simp) (rest _ (.inr (.inr (.inr (.inl rfl)))))
  | held k =>
    simp only [Cl.words] at rest ⊢
    refine if_step fun S U hS hU => ?_
    walk_at "hbr"
    rw [decide_eq_false n3]
    walk_at "hbr"
    rw [hU]
    refine if_step fun S U hS hU => ?_
    walk_at "hbr"
    rw [decide_eq_false n6]
    walk_at "hbr"
    rw [hU]
    refine if_step fun S U hS hU => ?_
    walk_at "hbr"
    rw [decide_eq_false n8]
    walk_at "hbr"
    rw [hU]
    refine if_step fun S U hS hU => ?_
    walk_at "hbr"
    rw [hS]
    unfold sMake
    walk_at "hbr"
    exact make_sub (by simp) (rest _ (.inr (.inr (.inr (.inr (.inl rfl))))))
  | turned p o n =>
    simp only [Cl.words] at rest ⊢
    refine if_step fun S U hS hU => ?_
    walk_at "hbr"
    rw [decide_eq_false n4]
    walk_at "hbr"
    rw [hU]
    refine if_step fun S U hS hU => ?_
    walk_at "hbr"
    rw [decide_eq_false n7]
    walk_at "hbr"
    rw [hU]
    refine if_step fun S U hS hU => ?_
    walk_at "hbr"
    rw [decide_eq_false n9]
    walk_at "hbr"
    rw [hU]
    refine if_step fun S U hS hU => ?_
    walk_at "hbr"
    rw [decide_eq_false n10]
    walk_at "hbr"
    rw [hU]
    unfold sMake
    walk_at "hbr"
    exact make_sub (by simp) (rest _ (.inr (.inr (.inr (.inr (.inr rfl))))))
theorem cls_snoc {xs : List D} {rs : List Row} {d : D} {r : Row} (h : IsCls a xs rs) (hd : IsCl a d r) : IsCls a (xs ++ [d]) (rs ++ [r]) := paired_snoc hd h
def T__law_clause (a : Ad) : PT1 := fun ds m P => ∃ rs : List Row, ds = [factD rs] ∧ rs ≠ [] ∧ rs.length ≤ 3 ∧ ∀ d xs, factXs a d xs → IsCls a xs rs → P d m
theorem p__law_clause (Y : Ty K a) (h : T__law_clause a ds m P) : s__law_clause K a (T__law_claim a) (T_Claim_or a) (T_Clause_or a) (ends1 P) (startG N__law_clause ds) m := by
  obtain ⟨rs, rfl, h0, h3, h⟩ := h
  have hpos : 0 < rs.length := List.length_pos_iff.mpr h0
  unfold s__law_clause factD
  refine seq_step fun R hR => ?_
  walk_at "hbr"
  refine ⟨_, by rw [List.getElem?_map, List.getElem?_eq_getElem hpos]; rfl, rs[0], rfl, fun d0 hd0 => ?_⟩
  subst hR
  refine seq_step fun R hR => ?_
  refine for_step fun G hG => ?_
  unfold iLst
  walk_at "hbr"
  rw [cut1]
  refine ⟨fun i Γ m' => m' = m ∧ ∃ d xs, factXs a d xs ∧ IsCls a xs (rs.take (i + 1)) ∧ ∃ y, Γ = [some (.lst (rs.map rowD)), some d, y], ⟨rfl, d0, [d0], .inr ⟨rfl, _, hd0⟩, ?_, _, rfl⟩, fun _ _ _ _ _ => trivial, ?_, ?_⟩
  · have : rs.take (0 + 1) = [rs[0]] := by rw [take_succ' hpos]; rfl
    rw [this]
    exact .cons hd0 .nil
  · rintro i Γ m' hi ⟨rfl, d, xs, hf, hx, y, rfl⟩
    rw [hG]
    clear hG
    have hi' : i + 1 < rs.length := by simp at hi; omega
    have e : dget ((rs.map rowD).drop 1) i = rowD rs[i + 1] := by
      unfold dget; rw [List.getD_eq_getElem?_getD, List.getElem?_drop, Nat.add_comm, List.getElem?_map, List.getElem?_eq_getElem hi']; rfl
    rw [e]
    simp only [gN]
    walk_at "hbr"
    refine ⟨rs[i + 1], rfl, fun e he => ?_⟩
    have hx2 := cls_snoc hx he
    rw [← take_succ' hi'] at hx2
    have hxl := paired_len hx
    rw [List.length_take] at hxl
    obtain ⟨C2, f2, o2, g2⟩ := asO_clm (m := m') he
    unfold rhoU rhoOr
    rcases hf with rfl | ⟨rfl, r, hr⟩
    · refine .inr ⟨a.g "Clause", C2, _, f2, ⟨rfl, rfl⟩, o2, ⟨rfl, g2⟩, xs, e, _, rfl, by omega, he, rfl, _, _, .inl rfl, hx2, _, rfl⟩
    · obtain ⟨C1, f1, o1, g1⟩ := asO_clm (m := m') hr
      refine .inl ⟨C1, C2, f1, f2, o1, o2, ⟨g1, g2⟩, d, r, e, _, rfl, hr, he, rfl, _, _, .inl rfl, hx2, _, rfl⟩
  · rintro Γ m' ⟨rfl, d, xs, hf, hx, y, rfl⟩
    clear hG
    subst hR
    walk_at "hbr"
    have e : (List.drop 1 (List.map rowD rs)).length + 1 = rs.length := by simp; omega
    rw [e, List.take_length] at hx
    exact endN (h d xs hf hx)
end
set_option Elab.async false
set_option linter.all false
set_option maxRecDepth 100000
set_option maxHeartbeats 4000000
section
open PySem L2 TL
variable {K : PySem.W.Frag} {a : Ad} {ds : List D} {m m' m'' : Mem} {P : PD} {k : BkA} {B : Bk}
/-! the world's lines -/
theorem em_app (x : Str) : Str.empty ++ x = x := by
  apply ext_tl
  rw [tl_append, tl_em]; rfl
theorem jp (w w' : Str) (xs : List Str) (h : xs ≠ []) (hw : tl w' = tl w ++ [32]) : w' ++ Txt.join " " xs = Txt.join " " (w :: xs) := by
  have := j_people w w' xs h hw
  rw [em_app] at this
  exact this
theorem jp2 (w' x : Str) (w : Str) (hw : tl w' = tl w ++ [32]) : w' ++ x = Txt.join " " [w, x] := by
  have := j2 w' x w hw
  rw [em_app] at this
  exact this
theorem jl (w x : Str) : (("limit " ++ w) ++ " ") ++ x = Txt.join " " [("limit" : Str), w, x] := by
  apply ext_tl
  rw [tl_joinW]
  have : tl ("limit " : Str) = tl ("limit" : Str) ++ [32] := by decide +kernel
  simp only [tl_append, tl_sp, this, List.map_cons, List.map_nil, joinL]
  simp
theorem WdAt.get {w : Addr} {l : Option Addr} {W : Bk} (h : WdAt m w l W) : ∃ dl, m w = some (.dic (worldKv W dl)) ∧ asQ m dl (W.limits.map oN) ∧ (dl = .lst (W.limits.map oN) ∨ ∃ x, dl = .ref x ∧ l = some x ∧ x ≠ w ∧ m x = some (.lst (W.limits.map oN))) := by
  obtain ⟨dl, h1, h2⟩ := h.at_
  cases l with
  | none =>
    have h2 : dl = .lst (W.limits.map oN) := h2
    subst h2
    exact ⟨_, h1, rfl, .inl rfl⟩
  | some x =>
    obtain ⟨e, h3, h4⟩ := h2
    subst e
    exact ⟨_, h1, h4, .inr ⟨x, rfl, rfl, h3, h4⟩⟩
theorem ixQ {d v : D} {es : List D} {i : Nat} {Q : PD} (h : asQ m d es) (hd : (∃ x, d = .lst x) ∨ ∃ x, d = .ref x) (e : es[i]? = some v) (hq : Q v m) : rhoIx d (.int (i : Nat)) m Q := by
  rcases hd with ⟨x, rfl⟩ | ⟨x, rfl⟩ <;> exact ⟨i, es, v, rfl, h, e, hq⟩
def T__law_lines : PT1 := fun ds m P => ∃ w l W, ds = [.ref w] ∧ WdAt m w l W ∧ W.good ∧ W.limits.length = 4 ∧ P (.lst (W.lines.map .str)) m
theorem p__law_lines (h : T__law_lines ds m P) : s__law_lines K a T__law_text (ends1 P) (startG N__law_lines ds) m := by
  obtain ⟨w, l, W, rfl, hW, hg, hl4, h⟩ := h
  obtain ⟨dl, hw, hdl, hdl'⟩ := hW.get
  obtain ⟨h1, h2, h3, h4, h5, h6, h7, h8, h9, h10⟩ := hg.head
  obtain ⟨fw1, fw2, fw3⟩ := hg.few
  obtain ⟨lp1, lp2⟩ := names_join h1 h4
  obtain ⟨lv1, lv2⟩ := names_join h5 (by omega)
  have nl := num_len h10
  have w1 : tl ("people " : Str) = tl ("people" : Str) ++ [32] := by decide +kernel
  have w2 : tl ("versions " : Str) = tl ("versions" : Str) ++ [32] := by decide +kernel
  have w3 : tl ("last " : Str) = tl ("last" : Str) ++ [32] := by decide +kernel
  have w4 : tl ("turn " : Str) = tl ("turn" : Str) ++ [32] := by decide +kernel
  have c1 : ("people " : Str).length = 7 := by decide +kernel
  have c2 : ("versions " : Str).length = 9 := by decide +kernel
  have c3 : ("last " : Str).length = 5 := by decide +kernel
  have c5 : (" " : Str).length = 1 := by decide +kernel
  have c6 : ("turn " : Str).length = 5 := by decide +kernel
  have c7 : ("fact " : Str).length = 5 := by decide +kernel
  have c8 : ("limit " : Str).length = 6 := by decide +kernel
  have c9 : (" or " : Str).length = 4 := by decide +kernel
  unfold s__law_lines
  refine seq_step fun R hR => ?_
  walk_at "hbr"
  refine q_dget hw rfl ⟨W.people, rfl, lp2, ?_⟩
  refine ⟨by omega, ?_⟩
  refine q_dget hw rfl ⟨W.versions, rfl, lv2, ?_⟩
  refine ⟨by omega, by decide, fun q hq => ?_⟩
  rw [jp "people" "people " W.people (by intro e; rw [e] at h3; simp at h3) w1, jp "versions" "versions " W.versions (by intro e; rw [e] at h7; simp at h7) w2]
  have hqw : w ≠ q := fun e => by rw [e, hq] at hw; cases hw
  have hWq : ∀ o, mset m q o w = some (.dic (worldKv W dl)) := fun o => by rw [mset_ne hqw]; exact hw
  have hdq : ∀ o, asQ (mset m q o) dl (W.limits.map oN) := fun o => by
    rcases hdl' with rfl | ⟨x, rfl, _, hx, hx2⟩
    · exact rfl
    · show mset m q o x = _
      rw [mset_ne (fun e => by rw [e, hq] at hx2; cases hx2)]; exact hx2
  have hdk : (∃ x, dl = .lst x) ∨ ∃ x, dl = .ref x := by
    rcases hdl' with e | ⟨x, e, _⟩
    · exact .inl ⟨_, e⟩
    · exact .inr ⟨x, e⟩
  subst hR
  refine seq_step fun R hR => ?_
  walk_at "hbr"
  refine ⟨⟨_, mset_same⟩, q_dget (hWq _) rfl ?_⟩
  walk_at "hbr"
  have nl' : (Str.ofString (toString (W.last : Int))).length ≤ 4 := nl
  refine ⟨by omega, by omega, _, mset_same, by show 2 < 1000000; decide, ?_⟩
  have e0 : ("last " : Str) ++ Str.ofString (toString (W.last : Int)) = Txt.join " " [("last" : Str), numS W.last] := jp2 "last " (numS W.last) "last" w3
  rw [e0]
  have em : mset (mset m q (.lst [.str (Txt.join " " (("people" : Str) :: W.people)), .str (Txt.join " " (("versions" : Str) :: W.versions))])) q (.lst ([.str (Txt.join " " (("people" : Str) :: W.people)), .str (Txt.join " " (("versions" : Str) :: W.versions))] ++ [.str (Txt.join " " [("last" : Str), numS W.last])])) = mset m q (.lst ((headLines W.people W.versions W.last).map .str)) := by
    rw [mset_mset]; rfl
  first | rw [em] | skip
  obtain ⟨H0, hH0⟩ : ∃ H0, H0 = headLines W.people W.versions W.last := ⟨_, rfl⟩
  rw [← hH0]
  have hH0l : H0.length = 3 := by rw [hH0]; rfl
  clear em e0
  subst hR
  refine seq_step fun R hR => ?_
  refine for_step fun G hG => ?_
  unfold iLst
  walk_at "hbr"
  refine q_dget (hWq _) rfl ?_
  walk_at "hbr"
  refine ⟨fun i Γ m' => m' = mset m q (.lst ((H0 ++ (W.meetings.take i).map fun x => (Deed.meet x).line).map .str)) ∧ ∃ x2 x3 x4 x5 x6, Γ = [some (.ref w), some (.ref q), x2, x3, x4, x5, x6], ⟨by simp, _, _, _, _, _, rfl⟩, fun _ _ _ _ _ => trivial, ?_, ?_⟩
  · rintro i Γ m' hi ⟨rfl, x2, x3, x4, x5, x6, rfl⟩
    rw [List.length_map] at hi
    rw [dgetM hi]
    have ok := hg.mt _ (List.getElem_mem hi)
    rw [hG]
    clear hG
    have hl2 : ((H0 ++ (W.meetings.take i).map fun x => (Deed.meet x).line).map D.str).length < 1000000 := by
      simp only [List.length_map, List.length_append, List.length_take]; omega
    have hst := mset_lst (m := m) (q := q) (map_take_succ (fun x => (Deed.meet x).line) hi H0)
    generalize W.meetings[i] = y at *
    obtain ⟨yd, y1, y2, ys⟩ := y
    obtain ⟨o1, o2, o3⟩ := ok
    have o1 : yd ≤ 30 := o1
    have q1 := num_len o1
    have q2 : y1.length ≤ 8 := o2.len
    have q3 : y2.length ≤ 8 := o3.len
    have e1 : ("meet" : Str).length = 4 := by decide +kernel
    have e2 : ("maybe" : Str).length = 5 := by decide +kernel
    simp only [Mt.d]
    cases ys
    · walk_at "hbr"
      refine ⟨⟨_, mset_same⟩, by decide, 0, _, .str "maybe", rfl, rfl, rfl, ?_⟩
      walk_at "hbr"
      refine ⟨by omega, by simp, [("maybe" : Str), numS yd, y1, y2], rfl, ?_, ?_⟩
      · simp only [List.map_cons, List.map_nil, List.sum_cons, List.sum_nil, List.length_cons, List.length_nil]; omega
      · exact ⟨_, mset_same, hl2, hst, _, _, _, _, _, rfl⟩
    · walk_at "hbr"
      refine ⟨⟨_, mset_same⟩, by decide, 1, _, .str "meet", rfl, rfl, rfl, ?_⟩
      walk_at "hbr"
      refine ⟨by omega, by simp, [("meet" : Str), numS yd, y1, y2], rfl, ?_, ?_⟩
      · simp only [List.map_cons, List.map_nil, List.sum_cons, List.sum_nil, List.length_cons, List.length_nil]; omega
      · exact ⟨_, mset_same, hl2, hst, _, _, _, _, _, rfl⟩
  rintro Γ m' ⟨rfl, x2, x3, x4, x5, x6, rfl⟩
  rw [List.length_map, List.take_length]
  clear hG
  subst hR
  obtain ⟨H1, hH1⟩ : ∃ H1, H1 = H0 ++ W.meetings.map fun x => (Deed.meet x).line := ⟨_, rfl⟩
  rw [← hH1]
  have hH1l : H1.length ≤ 30 := by rw [hH1]; simp; omega
  refine seq_step fun R hR => ?_
  refine for_step fun G hG => ?_
  unfold iLst
  walk_at "hbr"
  refine q_dget (hWq _) rfl ?_
  walk_at "hbr"
  refine ⟨fun i Γ m' => m' = mset m q (.lst ((H1 ++ (W.turns.take i).map fun x => (Deed.turn x).line).map .str)) ∧ ∃ x2 x3 x4 x5 x6, Γ = [some (.ref w), some (.ref q), x2, x3, x4, x5, x6], ⟨by simp, _, _, _, _, _, rfl⟩, fun _ _ _ _ _ => trivial, ?_, ?_⟩
  · rintro i Γ m' hi ⟨rfl, x2, x3, x4, x5, x6, rfl⟩
    rw [List.length_map] at hi
    rw [dgetM hi]
    have ok := hg.tn _ (List.getElem_mem hi)
    rw [hG]
    clear hG
    have hl2 : ((H1 ++ (W.turns.take i).map fun x => (Deed.turn x).line).map D.str).length < 1000000 := by
      simp only [List.length_map, List.length_append, List.length_take]; omega
    have hst := mset_lst (m := m) (q := q) (map_take_succ (fun x => (Deed.turn x).line) hi H1)
    generalize W.turns[i] = y at *
    obtain ⟨o1, o2, o3⟩ := ok
    have q1 := o1.len
    have q2 := o2.len
    have q3 := o3.len
    have ej := jp "turn" "turn " [y.who, y.old, y.new] (by simp) w4
    have hjl : (Txt.join " " [y.who, y.old, y.new]).length ≤ 110 := wd_len (by simp) (fun v hv => by
      simp only [List.mem_cons, List.not_mem_nil, or_false] at hv
      rcases hv with rfl | rfl | rfl
      · exact name_wd o1
      · exact name_wd o2
      · exact name_wd o3)
    simp only [Tn.d]
    walk_at "hbr"
    refine ⟨⟨_, mset_same⟩, [y.who, y.old, y.new], rfl, ?_, ?_⟩
    · simp only [List.map_cons, List.map_nil, List.sum_cons, List.sum_nil, List.length_cons, List.length_nil]; omega
    · refine ⟨by omega, _, mset_same, hl2, ?_, _, _, _, _, _, rfl⟩
      rw [ej]; exact hst
  rintro Γ m' ⟨rfl, x2, x3, x4, x5, x6, rfl⟩
  rw [List.length_map, List.take_length]
  clear hG
  subst hR
  obtain ⟨H2, hH2⟩ : ∃ H2, H2 = H1 ++ W.turns.map fun x => (Deed.turn x).line := ⟨_, rfl⟩
  rw [← hH2]
  have hH2l : H2.length ≤ 40 := by rw [hH2]; simp; omega
  refine seq_step fun R hR => ?_
  refine for_step fun G hG => ?_
  unfold iLst
  walk_at "hbr"
  refine q_dget (hWq _) rfl ?_
  walk_at "hbr"
  refine ⟨fun i Γ m' => m' = mset m q (.lst ((H2 ++ (W.facts.take i).map fun x => (Deed.fact x).line).map .str)) ∧ ∃ x2 x3 x4 x5 x6, Γ = [some (.ref w), some (.ref q), x2, x3, x4, x5, x6], ⟨by simp, _, _, _, _, _, rfl⟩, fun _ _ _ _ _ => trivial, ?_, ?_⟩
  · rintro i Γ m' hi ⟨rfl, x2, x3, x4, x5, x6, rfl⟩
    rw [List.length_map] at hi
    rw [dgetM hi]
    obtain ⟨o1, o2, o3⟩ := hg.fa _ (List.getElem_mem hi)
    rw [hG]
    clear hG
    have hl2 : ((H2 ++ (W.facts.take i).map fun x => (Deed.fact x).line).map D.str).length < 1000000 := by
      simp only [List.length_map, List.length_append, List.length_take]; omega
    have hst := mset_lst (m := m) (q := q) (map_take_succ (fun x => (Deed.fact x).line) hi H2)
    generalize W.facts[i] = rs at *
    have q1 := fact_len o2 o3
    have ej := f_fact (Txt.join " or " (rs.map rowText))
    unfold sLc iLst
    simp only [factD]
    walk_at "hbr"
    refine ⟨⟨_, mset_same⟩, fun _ => true, fun i => .str ((rs.map rowText).getD i ""), by rw [List.length_map]; omega, fun i' p out hi' hp => ⟨rfl, rfl, fun _ => ?_⟩, fun _ _ _ => trivial, ?_⟩
    · rw [List.length_map] at hi'
      rw [dgetM hi']
      refine ⟨rs[i'], rfl, o3 _ (List.getElem_mem hi'), rfl, ?_⟩
      simp [List.getD, hi']
    · rw [filter_all, List.length_map, map_range (fun r => D.str (rowText r)) fun i hi => by simp [List.getD, hi]]
      refine ⟨rs.map rowText, by rw [List.map_map]; rfl, ?_, ?_⟩
      · have h1 := sum_le (k := 100) (ws := rs.map rowText) (by
          intro z hz
          obtain ⟨r, hr', rfl⟩ := List.mem_map.mp hz
          exact rowText_len (o3 r hr'))
        rw [c9, List.length_map] at *
        omega
      · refine ⟨by omega, _, mset_same, hl2, ?_, _, _, _, _, _, rfl⟩
        rw [ej]; exact hst
  rintro Γ m' ⟨rfl, x2, x3, x4, x5, x6, rfl⟩
  rw [List.length_map, List.take_length]
  clear hG
  subst hR
  obtain ⟨H3, hH3⟩ : ∃ H3, H3 = H2 ++ W.facts.map fun x => (Deed.fact x).line := ⟨_, rfl⟩
  rw [← hH3]
  have hH3l : H3.length ≤ 50 := by rw [hH3]; simp; omega
  refine seq_step fun R hR => ?_
  refine for_step fun G hG => ?_
  unfold iRange
  walk_at "hbr"
  refine ⟨4, rfl, by decide, fun i Γ m' => m' = mset m q (.lst ((H3 ++ (List.range i).map fun i => (Deed.limit i (W.limits.getD i none)).line).map .str)) ∧ ∃ x2 x3 x4 x5 x6, Γ = [some (.ref w), some (.ref q), x2, x3, x4, x5, x6], ⟨by simp, _, _, _, _, _, rfl⟩, fun _ _ _ _ _ => trivial, ?_, ?_⟩
  · rintro i Γ m' hi ⟨rfl, x2, x3, x4, x5, x6, rfl⟩
    obtain ⟨c, g1, g2⟩ := hg.li i hi
    have e2 : (W.limits.map oN)[i]? = some (oN c) := by rw [List.getElem?_map, g1]; rfl
    have e3 : W.limits.getD i none = c := by rw [List.getD_eq_getElem?_getD, g1]; rfl
    have hl2 : ((H3 ++ (List.range i).map fun i => (Deed.limit i (W.limits.getD i none)).line).map D.str).length < 1000000 := by
      simp only [List.length_map, List.length_append, List.length_range]; omega
    have hst := mset_lst (m := m) (q := q) (xs := H3 ++ (List.range i).map fun i => (Deed.limit i (W.limits.getD i none)).line) (ys := H3 ++ (List.range (i + 1)).map fun i => (Deed.limit i (W.limits.getD i none)).line) (z := (Deed.limit i c).line) (by rw [List.range_succ, List.map_append, List.append_assoc, List.map_cons, e3]; rfl)
    obtain ⟨_, _, kl⟩ := kind_facts i hi
    have ek : ([D.str "begins", .str "held", .str "turns", .str "tellers"] : List D)[i]? = some (.str (kindS i)) := by
      match i, hi with
      | 0, _ => rfl
      | 1, _ => rfl
      | 2, _ => rfl
      | 3, _ => rfl
    rw [hG]
    clear hG
    simp only [gN]
    refine seq_step fun R hR => ?_
    walk_at "hbr"
    refine q_dget (hWq _) rfl (ixQ (hdq _) hdk e2 ?_)
    obtain ⟨d, hd⟩ : ∃ d, d = oN c := ⟨_, rfl⟩
    rw [← hd]
    subst hR
    refine seq_step fun R hR => ?_
    walk_at "hbr"
    subst hR
    refine seq_step fun R hR => ?_
    have rest : R [some (.ref w), some (.ref q), x2, x3, some (.int (i : Nat)), some d, some (.str (limS c))] (mset m q (.lst ((H3 ++ (List.range i).map fun i => (Deed.limit i (W.limits.getD i none)).line).map .str))) := by
      rw [hR]
      have lc : (limS c).length ≤ 10 := by
        cases c with
        | none => show ("none" : Str).length ≤ 10; decide +kernel
        | some n => have := num_len (n := n) (by have : n ≤ 24 := g2; omega); show (numS n).length ≤ 10; omega
      walk_at "hbr"
      refine ⟨⟨_, mset_same⟩, by decide, _, ek, ?_⟩
      walk_at "hbr"
      simp only [Str.length_append]
      refine ⟨by omega, by omega, by omega, _, mset_same, hl2, ?_, _, _, _, _, _, rfl⟩
      rw [jl]; exact hst
    clear hR
    cases c with
    | none =>
      have hd : d = .non := hd
      subst hd
      walk_at "hbr"
      exact rest
    | some n =>
      have hd : d = .int n := hd
      subst hd
      have hn : n ≤ 24 := g2
      walk_at "hbr"
      exact ⟨by omega, rest⟩
  rintro Γ m' ⟨rfl, x2, x3, x4, x5, x6, rfl⟩
  clear hG
  subst hR
  have hlines : H3 ++ (List.range 4).map (fun i => (Deed.limit i (W.limits.getD i none)).line) = W.lines := by
    rw [hH3, hH2, hH1, hH0]; rfl
  rw [hlines]
  refine frz_step rfl mset_same ?_
  walk_at "hbr"
  rw [mdel_mset hq]
  exact endN h
end
set_option Elab.async false
set_option linter.all false
set_option maxRecDepth 100000
set_option maxHeartbeats 4000000
section
open PySem L2 TL
variable {W B : Bk}
/-! the world's deeds are taken -/
theorem not_take {A : Type} {xs : List A} (h : xs.Nodup) {i : Nat} (hi : i < xs.length) : xs[i] ∉ xs.take i := by
  intro q
  obtain ⟨j, hj, e⟩ := List.mem_iff_getElem.mp q
  rw [List.length_take] at hj
  rw [List.getElem_take] at e
  have := (List.getElem_inj (h₀ := by omega) (h₁ := hi) h).mp e
  omega
theorem suits_ok (hW : WOK W) {c : Cl} (h : Suits W c) : c.ok := by
  obtain ⟨p1, p2, p3, p4, v1, v2, v3, v4, l1, l2⟩ := hW.head
  have kp : ∀ o, Known W.people o → OptOK NameOK o := fun o ho => by
    cases o with
    | none => trivial
    | some x => exact p1 x ho
  have kv : ∀ o, Known W.versions o → OptOK NameOK o := fun o ho => by
    cases o with
    | none => trivial
    | some x => exact v1 x ho
  cases c with
  | knew p d v => obtain ⟨h1, h2, h3⟩ := h; exact ⟨p1 _ h1, by omega, kv _ h3⟩
  | told t g f l =>
    obtain ⟨h1, h2, h3, h4, h5⟩ := h
    refine ⟨kp _ h1, kp _ h2, by omega, ?_⟩
    cases l with
    | none => trivial
    | some n => have := h5.2; show n ≤ 30; omega
  | began p v => obtain ⟨h1, h2⟩ := h; exact ⟨p1 _ h1, kv _ h2⟩
  | held k =>
    obtain ⟨x, hx, _⟩ := h
    have := (List.getElem?_eq_some_iff.mp hx).1
    have := hW.mt
    show k ≤ 30
    omega
  | turned p o n => obtain ⟨h1, h2, h3⟩ := h; exact ⟨p1 _ h1, kv _ h2, kv _ h3⟩
theorem mem_at {A : Type} {xs : List A} {x : A} (h : x ∈ xs) : ∃ i : Nat, xs[i]? = some x := by
  obtain ⟨i, hi, e⟩ := List.mem_iff_getElem.mp h
  exact ⟨i, by rw [List.getElem?_eq_getElem hi, e]⟩
theorem good_of (hW : WOK W) : W.good := by
  obtain ⟨p1, p2, p3, p4, v1, v2, v3, v4, l1, l2⟩ := hW.head
  have hmt := hW.mt
  have htn := hW.tn
  have hfa := hW.fa
  refine ⟨hW.head, fun x hx => ?_, fun x hx => ?_, fun rs hrs => ?_, fun i hi => ?_, by omega, by omega, by omega⟩
  · obtain ⟨i, hi⟩ := mem_at hx
    obtain ⟨h1, h2, h3, h4, h5, _⟩ := hW.mto i x hi
    exact ⟨by omega, p1 _ h1, p1 _ h2⟩
  · obtain ⟨h1, h2, h3, _⟩ := hW.tno x hx
    exact ⟨p1 _ h1, v1 _ h2, v1 _ h3⟩
  · obtain ⟨h1, h2, h3⟩ := hW.fao rs hrs
    exact ⟨h1, h2, fun r hr => suits_ok hW (h3 r hr)⟩
  · have hl := hW.li.1
    have hi' : i < W.limits.length := by omega
    exact ⟨W.limits[i], List.getElem?_eq_getElem hi', hW.li.2 _ (List.getElem_mem hi')⟩
theorem suits_eq (h1 : B.people = W.people) (h2 : B.versions = W.versions) (h3 : B.last = W.last) (h4 : B.meetings = W.meetings) {c : Cl} (h : Suits W c) : Suits B c := by
  cases c with
  | knew p d v => unfold Suits at h ⊢; rw [h1, h2, h3]; exact h
  | told t g f l => unfold Suits at h ⊢; rw [h1, h3]; exact h
  | began p v => unfold Suits at h ⊢; rw [h1, h2]; exact h
  | held k => unfold Suits at h ⊢; rw [h4]; exact h
  | turned p o n => unfold Suits at h ⊢; rw [h1, h2]; exact h
theorem takes_meet (hW : WOK W) {d r : List Mt} {x : Mt} (e : d ++ x :: r = W.meetings) (h1 : B.people = W.people) (h3 : B.last = W.last) (hm : B.meetings = d) : B.takes (.meet x) := by
  have hx : W.meetings[d.length]? = some x := by rw [← e, List.getElem?_append_right (Nat.le_refl _), Nat.sub_self]; rfl
  obtain ⟨q1, q2, q3, q4, q5, q6⟩ := hW.mto _ _ hx
  have hl : d.length < 8 := by
    have := hW.mt
    rw [← e, List.length_append, List.length_cons] at this
    omega
  unfold Bk.takes
  rw [h1, h3, hm]
  refine ⟨q1, q2, q3, q4, q5, fun y hy => ?_, by omega, fun hs => ?_⟩
  · obtain ⟨j, hj⟩ := mem_at hy
    have hjl := (List.getElem?_eq_some_iff.mp hj).1
    exact q6 j y hjl (by rw [← e, List.getElem?_append_left hjl]; exact hj)
  · have := hW.mtu
    rw [← e, List.filter_append, List.length_append, List.filter_cons] at this
    rw [hs] at this
    simp at this
    omega
theorem takes_turn (hW : WOK W) {d r : List Tn} {x : Tn} (e : d ++ x :: r = W.turns) (h1 : B.people = W.people) (h2 : B.versions = W.versions) (hm : B.turns = d) : B.takes (.turn x) := by
  have hx : x ∈ W.turns := by rw [← e]; simp
  obtain ⟨q1, q2, q3, q4⟩ := hW.tno x hx
  have hl : d.length < 6 := by
    have := hW.tn
    rw [← e, List.length_append, List.length_cons] at this
    omega
  unfold Bk.takes
  rw [h1, h2, hm]
  refine ⟨q1, q2, q3, q4, fun hd => ?_, hl⟩
  have := hW.tnd
  rw [← e, List.nodup_append] at this
  exact this.2.2 x hd x (by simp) rfl
theorem takes_fact (hW : WOK W) {d r : List (List Row)} {x : List Row} (e : d ++ x :: r = W.facts) (h1 : B.people = W.people) (h2 : B.versions = W.versions) (h3 : B.last = W.last) (h4 : B.meetings = W.meetings) (hm : B.facts = d) : B.takes (.fact x) := by
  have hx : x ∈ W.facts := by rw [← e]; simp
  obtain ⟨q1, q2, q3⟩ := hW.fao x hx
  have hl : d.length < 4 := by
    have := hW.fa
    rw [← e, List.length_append, List.length_cons] at this
    omega
  refine ⟨q1, q2, fun r hr => suits_eq h1 h2 h3 h4 (q3 r hr), by rw [hm]; exact hl⟩
theorem runs_app : ∀ {xs ys : List Deed} {B : Bk}, RunsOK B xs → RunsOK (B.apps xs) ys → RunsOK B (xs ++ ys)
  | [], _, _, _, h => h
  | x :: xs, ys, B, h, h' => ⟨h.1, h.2.1, runs_app (xs := xs) h.2.2 h'⟩
theorem apps_app (xs ys : List Deed) (B : Bk) : B.apps (xs ++ ys) = (B.apps xs).apps ys := by unfold Bk.apps; rw [List.foldl_append]
theorem runs_meet (hW : WOK W) : ∀ (r d : List Mt) (B : Bk), d ++ r = W.meetings → B.people = W.people → B.last = W.last → B.meetings = d → RunsOK B (r.map .meet) ∧ B.apps (r.map .meet) = { B with meetings := d ++ r, np := B.np + r.length }
  | [], d, B, _, _, _, hm => ⟨trivial, by
    obtain ⟨p, v, l, ms, ts, fs, ls, n⟩ := B
    have hm : ms = d := hm
    subst hm
    show _ = (⟨p, v, l, ms ++ [], ts, fs, ls, n + 0⟩ : Bk)
    rw [List.append_nil]; rfl⟩
  | x :: r, d, B, e, h1, h3, hm => by
    have ht := takes_meet hW e h1 h3 hm
    have hg := (good_of hW).mt x (by rw [← e]; simp)
    obtain ⟨q1, q2⟩ := runs_meet hW r (d ++ [x]) (B.app (.meet x)) (by rw [List.append_assoc]; exact e) h1 h3 (by show B.meetings ++ [x] = _; rw [hm])
    refine ⟨⟨ht, hg, q1⟩, ?_⟩
    show (B.app (.meet x)).apps (r.map .meet) = _
    rw [q2, List.append_assoc]
    show (⟨_, _, _, _, _, _, _, B.np + 1 + r.length⟩ : Bk) = ⟨_, _, _, _, _, _, _, B.np + (r.length + 1)⟩
    rw [show B.np + 1 + r.length = B.np + (r.length + 1) by omega]; rfl
theorem runs_turn (hW : WOK W) : ∀ (r d : List Tn) (B : Bk), d ++ r = W.turns → B.people = W.people → B.versions = W.versions → B.turns = d → RunsOK B (r.map .turn) ∧ B.apps (r.map .turn) = { B with turns := d ++ r, np := B.np + r.length }
  | [], d, B, _, _, _, hm => ⟨trivial, by
    obtain ⟨p, v, l, ms, ts, fs, ls, n⟩ := B
    have hm : ts = d := hm
    subst hm
    show _ = (⟨p, v, l, ms, ts ++ [], fs, ls, n + 0⟩ : Bk)
    rw [List.append_nil]; rfl⟩
  | x :: r, d, B, e, h1, h3, hm => by
    have ht := takes_turn hW e h1 h3 hm
    have hg := (good_of hW).tn x (by rw [← e]; simp)
    obtain ⟨q1, q2⟩ := runs_turn hW r (d ++ [x]) (B.app (.turn x)) (by rw [List.append_assoc]; exact e) h1 h3 (by show B.turns ++ [x] = _; rw [hm])
    refine ⟨⟨ht, hg, q1⟩, ?_⟩
    show (B.app (.turn x)).apps (r.map .turn) = _
    rw [q2, List.append_assoc]
    show (⟨_, _, _, _, _, _, _, B.np + 1 + r.length⟩ : Bk) = ⟨_, _, _, _, _, _, _, B.np + (r.length + 1)⟩
    rw [show B.np + 1 + r.length = B.np + (r.length + 1) by omega]; rfl
theorem runs_fact (hW : WOK W) : ∀ (r d : List (List Row)) (B : Bk), d ++ r = W.facts → B.people = W.people → B.versions = W.versions → B.last = W.last → B.meetings = W.meetings → B.facts = d → RunsOK B (r.map .fact) ∧ B.apps (r.map .fact) = { B with facts := d ++ r, np := B.np + r.length }
  | [], d, B, _, _, _, _, _, hm => ⟨trivial, by
    obtain ⟨p, v, l, ms, ts, fs, ls, n⟩ := B
    have hm : fs = d := hm
    subst hm
    show _ = (⟨p, v, l, ms, ts, fs ++ [], ls, n + 0⟩ : Bk)
    rw [List.append_nil]; rfl⟩
  | x :: r, d, B, e, h1, h2, h3, h4, hm => by
    have ht := takes_fact hW e h1 h2 h3 h4 hm
    have hg := (good_of hW).fa x (by rw [← e]; simp)
    obtain ⟨q1, q2⟩ := runs_fact hW r (d ++ [x]) (B.app (.fact x)) (by rw [List.append_assoc]; exact e) h1 h2 h3 h4 (by show B.facts ++ [x] = _; rw [hm])
    refine ⟨⟨ht, hg, q1⟩, ?_⟩
    show (B.app (.fact x)).apps (r.map .fact) = _
    rw [q2, List.append_assoc]
    show (⟨_, _, _, _, _, _, _, B.np + 1 + r.length⟩ : Bk) = ⟨_, _, _, _, _, _, _, B.np + (r.length + 1)⟩
    rw [show B.np + 1 + r.length = B.np + (r.length + 1) by omega]; rfl
/-- the limits' deeds from j on -/
def limDeeds (ls : List (Option Nat)) (j : Nat) : List Deed := ((List.range 4).drop j).map fun i => .limit i (ls.getD i none)
theorem runs_lim {ls : List (Option Nat)} (hb : ∀ i, i < 4 → OptN (· ≤ 24) (ls.getD i none)) (j : Nat) (B : Bk) : RunsOK B (limDeeds ls j) := by
  have : ∀ (is : List Nat) (B : Bk), (∀ i ∈ is, i < 4) → RunsOK B (is.map fun i => .limit i (ls.getD i none)) := by
    intro is
    induction is with
    | nil => intro _ _; trivial
    | cons i is ih =>
      intro B h
      have hi := h i (by simp)
      exact ⟨⟨hi, hb i hi⟩, ⟨hi, hb i hi⟩, ih _ fun x hx => h x (List.mem_cons_of_mem _ hx)⟩
  refine this _ B fun i hi => ?_
  have := List.mem_of_mem_drop hi
  exact List.mem_range.mp this
theorem apps_lim0 {a b c d e f g h : Option Nat} {B : Bk} (hB : B.limits = [e, f, g, h]) : B.apps (limDeeds [a, b, c, d] 0) = { B with limits := [a, b, c, d], np := B.np + 4 } := by
  obtain ⟨p, v, l, ms, ts, fs, ls, n⟩ := B
  have hB : ls = [e, f, g, h] := hB
  subst hB
  rfl
theorem apps_lim1 {a b c d e f g h : Option Nat} {B : Bk} (hB : B.limits = [e, f, g, h]) : B.apps (limDeeds [a, b, c, d] 1) = { B with limits := [e, b, c, d], np := B.np + 3 } := by
  obtain ⟨p, v, l, ms, ts, fs, ls, n⟩ := B
  have hB : ls = [e, f, g, h] := hB
  subst hB
  rfl
theorem four {ls : List (Option Nat)} (h : ls.length = 4) : ∃ a b c d, ls = [a, b, c, d] := by
  match ls, h with
  | [a, b, c, d], _ => exact ⟨a, b, c, d, rfl⟩
/-- the first text: as Book.text writes it -/
def deedsA (W : Bk) : List Deed := W.meetings.map .meet ++ (W.turns.map .turn ++ (W.facts.map .fact ++ limDeeds W.limits 0))
/-- the second: the limits first, from j on, the turns last -/
def deedsB (W : Bk) (j : Nat) : List Deed := limDeeds W.limits j ++ (W.meetings.map .meet ++ (W.facts.map .fact ++ W.turns.map .turn))
theorem lim_ok (hW : WOK W) : ∀ i, i < 4 → OptN (· ≤ 24) (W.limits.getD i none) := fun i hi => limits_get (good_of hW) hi
theorem runsA (hW : WOK W) : RunsOK (Bk.start W.people W.versions W.last) (deedsA W) ∧ readB W.people W.versions W.last (deedsA W) = { W with np := 0 } := by
  obtain ⟨a, b, c, d, hl⟩ := four hW.li.1
  obtain ⟨r1, e1⟩ := runs_meet hW W.meetings [] (Bk.start W.people W.versions W.last) rfl rfl rfl rfl
  obtain ⟨r2, e2⟩ := runs_turn hW W.turns [] ((Bk.start W.people W.versions W.last).apps (W.meetings.map .meet)) rfl (by rw [e1]; rfl) (by rw [e1]; rfl) (by rw [e1]; rfl)
  obtain ⟨r3, e3⟩ := runs_fact hW W.facts [] (((Bk.start W.people W.versions W.last).apps (W.meetings.map .meet)).apps (W.turns.map .turn)) rfl (by rw [e2, e1]; rfl) (by rw [e2, e1]; rfl) (by rw [e2, e1]; rfl) (by rw [e2, e1]; rfl) (by rw [e2, e1]; rfl)
  refine ⟨runs_app r1 (runs_app r2 (runs_app r3 (runs_lim (lim_ok hW) 0 _))), ?_⟩
  unfold readB deedsA
  rw [apps_app, apps_app, apps_app, hl]
  rw [apps_lim0 (e := some 1) (f := none) (g := none) (h := none) (by rw [e3, e2, e1]; rfl), e3, e2, e1]
  obtain ⟨p, v, l, ms, ts, fs, ls, n⟩ := W
  have hl : ls = [a, b, c, d] := hl
  subst hl
  rfl
theorem runsB (hW : WOK W) {j : Nat} (hj : j < 2) : RunsOK (Bk.start W.people W.versions W.last) (deedsB W j) ∧ readB W.people W.versions W.last (deedsB W j) = { W with limits := (if j = 0 then W.limits else some 1 :: W.limits.drop 1), np := 0 } := by
  obtain ⟨a, b, c, d, hl⟩ := four hW.li.1
  obtain ⟨B0, hB0⟩ : ∃ B0, B0 = (Bk.start W.people W.versions W.last).apps (limDeeds W.limits j) := ⟨_, rfl⟩
  have hB : ∃ n, B0 = { Bk.start W.people W.versions W.last with limits := (if j = 0 then W.limits else some 1 :: W.limits.drop 1), np := n } := by
    rw [hB0, hl]
    match j, hj with
    | 0, _ => exact ⟨4, apps_lim0 (e := some 1) (f := none) (g := none) (h := none) rfl⟩
    | 1, _ => exact ⟨3, apps_lim1 (e := some 1) (f := none) (g := none) (h := none) rfl⟩
  obtain ⟨n, hB⟩ := hB
  obtain ⟨r1, e1⟩ := runs_meet hW W.meetings [] B0 rfl (by rw [hB]; rfl) (by rw [hB]; rfl) (by rw [hB]; rfl)
  obtain ⟨r3, e3⟩ := runs_fact hW W.facts [] (B0.apps (W.meetings.map .meet)) rfl (by rw [e1, hB]; rfl) (by rw [e1, hB]; rfl) (by rw [e1, hB]; rfl) (by rw [e1]; rfl) (by rw [e1, hB]; rfl)
  obtain ⟨r2, e2⟩ := runs_turn hW W.turns [] ((B0.apps (W.meetings.map .meet)).apps (W.facts.map .fact)) rfl (by rw [e3, e1, hB]; rfl) (by rw [e3, e1, hB]; rfl) (by rw [e3, e1, hB]; rfl)
  refine ⟨runs_app (runs_lim (lim_ok hW) j _) (by rw [← hB0]; exact runs_app r1 (runs_app r3 r2)), ?_⟩
  unfold readB deedsB
  rw [apps_app, apps_app, apps_app, ← hB0, e2, e3, e1, hB]
  rfl
end
set_option Elab.async false
set_option linter.all false
set_option maxRecDepth 100000
set_option maxHeartbeats 4000000
section
open PySem L2 TL
variable {K : PySem.W.Frag} {a : Ad} {ds : List D} {m m' m'' : Mem} {P : PD} {k : BkA} {B : Bk}
/-! the world built -/
theorem split_at {A : Type} {xs : List A} {i : Nat} (hi : i < xs.length) : xs.take i ++ xs[i] :: xs.drop (i + 1) = xs := by
  rw [← List.drop_eq_getElem_cons hi, List.take_append_drop]
def T__law_build (a : Ad) : PT1 := fun ds m P => ∃ w l W, ds = [.ref w] ∧ WdAt m w l W ∧ WOK W ∧ ∀ k m' n, n ≤ 1000 → New k m → BookAt a m' k { W with np := n } → Fr k m m' → P (.ref k.p) m'
theorem p__law_build (h : T__law_build a ds m P) : s__law_build K a (T_Book_init a) (T_Book_meet a) (T_Book_may_turn a) (T_Book_fact a) (T__law_clause a) (T_Book_change a) (ends1 P) (startG N__law_build ds) m := by
  obtain ⟨w, l, W, rfl, hW, hok, h⟩ := h
  obtain ⟨dl, hw, hdl, hdl'⟩ := hW.get
  have hg := good_of hok
  have hmt := hok.mt
  have htn := hok.tn
  have hfa := hok.fa
  have hdk : (∃ x, dl = .lst x) ∨ ∃ x, dl = .ref x := by
    rcases hdl' with e | ⟨x, e, _⟩
    · exact .inl ⟨_, e⟩
    · exact .inr ⟨x, e⟩
  unfold s__law_build
  refine seq_step fun R hR => ?_
  unfold sMakeK
  walk_at "hbr"
  refine q_dget hw rfl ?_
  walk_at "hbr"
  refine q_dget hw rfl ?_
  walk_at "hbr"
  refine q_dget hw rfl ?_
  intro p hp
  refine ⟨p, W.people, W.versions, W.last, rfl, mset_same, hok.head, fun k m1 hkp hb1 hnew hfr => ⟨rfl, .ref p, m1, Gh.refl, ?_⟩⟩
  subst hkp
  have hN : New k m := fun x hx => by
    by_cases e : x = k.p
    · rw [e]; exact hp
    · have := hnew x hx e
      rw [mset_ne e] at this; exact this
  have hF : Fr k m m1 := fun x hx => by
    rw [hfr x hx, mset_ne (fun e => hx (by rw [e]; exact inP))]
  have out : ∀ x o, m x = some o → x ∉ k.all := fun x o hx hk => by rw [hN x hk] at hx; cases hx
  have hWf : ∀ m', Fr k m m' → m' w = some (.dic (worldKv W dl)) := fun m' f => by rw [f w (out w _ hw)]; exact hw
  have hdf : ∀ m', Fr k m m' → asQ m' dl (W.limits.map oN) := fun m' f => by
    rcases hdl' with rfl | ⟨x, rfl, _, hx, hx2⟩
    · exact rfl
    · show m' x = _
      rw [f x (out x _ hx2)]; exact hx2
  clear hfr hnew
  subst hR
  refine seq_step fun R hR => ?_
  refine for_step fun G hG => ?_
  unfold iLst
  walk_at "hbr"
  refine q_dget (hWf _ hF) rfl ?_
  walk_at "hbr"
  refine ⟨fun i Γ m' => BookAt a m' k { Bk.start W.people W.versions W.last with meetings := W.meetings.take i, np := i } ∧ Fr k m m' ∧ ∃ x y z, Γ = [some (.ref w), some (.ref k.p), x, y, z], ⟨hb1, hF, _, _, _, rfl⟩, fun _ _ _ _ _ => trivial, ?_, ?_⟩
  · rintro i Γ m' hi ⟨hb, hf, x, y, z, rfl⟩
    rw [List.length_map] at hi
    rw [dgetM hi, hG]
    clear hG
    have ht := takes_meet (B := { Bk.start W.people W.versions W.last with meetings := W.meetings.take i, np := i }) hok (split_at hi) rfl rfl rfl
    have e2 : ({ Bk.start W.people W.versions W.last with meetings := W.meetings.take i, np := i } : Bk).app (.meet W.meetings[i]) = { Bk.start W.people W.versions W.last with meetings := W.meetings.take (i + 1), np := i + 1 } := by
      rw [take_succ' hi]; rfl
    generalize W.meetings[i] = v at *
    simp only [Mt.d]
    unfold sMethK
    walk_at "hbr"
    refine ⟨⟨_, hb.at_, rfl⟩, ?_⟩
    exact ⟨k, _, v, rfl, hb, ht, by show i < 1000; omega, fun m2 r hb2 hf2 => ⟨by rw [e2] at hb2; exact hb2, hf.trans hf2, _, _, _, rfl⟩⟩
  rintro Γ m2 ⟨hb2, hf2, x, y, z, rfl⟩
  rw [List.length_map, List.take_length] at hb2
  clear hG hF hb1
  subst hR
  refine seq_step fun R hR => ?_
  refine for_step fun G hG => ?_
  unfold iLst
  walk_at "hbr"
  refine q_dget (hWf _ hf2) rfl ?_
  walk_at "hbr"
  refine ⟨fun i Γ m' => BookAt a m' k { Bk.start W.people W.versions W.last with meetings := W.meetings, turns := W.turns.take i, np := W.meetings.length + i } ∧ Fr k m m' ∧ ∃ x y z, Γ = [some (.ref w), some (.ref k.p), x, y, z], ⟨hb2, hf2, _, _, _, rfl⟩, fun _ _ _ _ _ => trivial, ?_, ?_⟩
  · rintro i Γ m' hi ⟨hb, hf, x, y, z, rfl⟩
    rw [List.length_map] at hi
    rw [dgetM hi, hG]
    clear hG
    have ht := takes_turn (B := { Bk.start W.people W.versions W.last with meetings := W.meetings, turns := W.turns.take i, np := W.meetings.length + i }) hok (split_at hi) rfl rfl rfl
    have hnm := hg.tn _ (List.getElem_mem hi)
    have hnt : ∀ y ∈ W.turns.take i, y.names := fun y hy => hg.tn y (List.mem_of_mem_take hy)
    have e2 : ({ Bk.start W.people W.versions W.last with meetings := W.meetings, turns := W.turns.take i, np := W.meetings.length + i } : Bk).app (.turn W.turns[i]) = { Bk.start W.people W.versions W.last with meetings := W.meetings, turns := W.turns.take (i + 1), np := W.meetings.length + (i + 1) } := by
      rw [take_succ' hi]; rfl
    generalize W.turns[i] = v at *
    simp only [Tn.d]
    walk_at "hbr"
    refine meth_bk hb rfl rfl ?_
    walk_at "hbr"
    exact ⟨k, _, v, rfl, hb, ht, hnm, hnt, by show W.meetings.length + i < 1000; omega, fun m2 r hb2 hf2 => ⟨by rw [e2] at hb2; exact hb2, hf.trans hf2, _, _, _, rfl⟩⟩
  rintro Γ m3 ⟨hb3, hf3, x, y, z, rfl⟩
  rw [List.length_map, List.take_length] at hb3
  clear hG hf2 hb2
  subst hR
  refine seq_step fun R hR => ?_
  refine for_step fun G hG => ?_
  unfold iLst
  walk_at "hbr"
  refine q_dget (hWf _ hf3) rfl ?_
  walk_at "hbr"
  refine ⟨fun i Γ m' => BookAt a m' k { Bk.start W.people W.versions W.last with meetings := W.meetings, turns := W.turns, facts := W.facts.take i, np := W.meetings.length + W.turns.length + i } ∧ Fr k m m' ∧ ∃ x y z, Γ = [some (.ref w), some (.ref k.p), x, y, z], ⟨hb3, hf3, _, _, _, rfl⟩, fun _ _ _ _ _ => trivial, ?_, ?_⟩
  · rintro i Γ m' hi ⟨hb, hf, x, y, z, rfl⟩
    rw [List.length_map] at hi
    rw [dgetM hi, hG]
    clear hG
    have ht := takes_fact (B := { Bk.start W.people W.versions W.last with meetings := W.meetings, turns := W.turns, facts := W.facts.take i, np := W.meetings.length + W.turns.length + i }) hok (split_at hi) rfl rfl rfl rfl rfl
    have hnt : ∀ y ∈ W.facts.take i, y.length ≤ 3 := fun y hy => (hg.fa y (List.mem_of_mem_take hy)).2.1
    obtain ⟨g1, g2, _⟩ := hg.fa _ (List.getElem_mem hi)
    have e2 : ({ Bk.start W.people W.versions W.last with meetings := W.meetings, turns := W.turns, facts := W.facts.take i, np := W.meetings.length + W.turns.length + i } : Bk).app (.fact W.facts[i]) = { Bk.start W.people W.versions W.last with meetings := W.meetings, turns := W.turns, facts := W.facts.take (i + 1), np := W.meetings.length + W.turns.length + (i + 1) } := by
      rw [take_succ' hi]; rfl
    generalize W.facts[i] = v at *
    walk_at "hbr"
    refine meth_bk hb rfl rfl ?_
    walk_at "hbr"
    refine ⟨v, rfl, g1, g2, fun d xs hfx hcl => ⟨by simp, by simp, k, _, d, xs, v, rfl, hb, hfx, hcl, ht, hnt, by show W.meetings.length + W.turns.length + i < 1000; omega, fun m2 r hb2 hf2 => ⟨by rw [e2] at hb2; exact hb2, hf.trans hf2, _, _, _, rfl⟩⟩⟩
  rintro Γ m4 ⟨hb4, hf4, x, y, z, rfl⟩
  rw [List.length_map, List.take_length] at hb4
  clear hG hf3 hb3
  subst hR
  refine seq_step fun R hR => ?_
  refine for_step fun G hG => ?_
  unfold iRange
  walk_at "hbr"
  refine ⟨4, rfl, by decide, fun i Γ m' => BookAt a m' k { Bk.start W.people W.versions W.last with meetings := W.meetings, turns := W.turns, facts := W.facts, limits := W.limits.take i ++ [some 1, none, none, none].drop i, np := W.meetings.length + W.turns.length + W.facts.length + i } ∧ Fr k m m' ∧ ∃ x y z, Γ = [some (.ref w), some (.ref k.p), x, y, z], ⟨hb4, hf4, _, _, _, rfl⟩, fun _ _ _ _ _ => trivial, ?_, ?_⟩
  · rintro i Γ m' hi ⟨hb, hf, x, y, z, rfl⟩
    rw [hG]
    clear hG
    obtain ⟨c, g1, g2⟩ := hg.li i hi
    have e1 : (W.limits.map oN)[i]? = some (oN c) := by rw [List.getElem?_map, g1]; rfl
    have ek : ([D.str "begins", .str "held", .str "turns", .str "tellers"] : List D)[i]? = some (.str (kindS i)) := by
      match i, hi with
      | 0, _ => rfl
      | 1, _ => rfl
      | 2, _ => rfl
      | 3, _ => rfl
    have e2 : ({ Bk.start W.people W.versions W.last with meetings := W.meetings, turns := W.turns, facts := W.facts, limits := W.limits.take i ++ [some 1, none, none, none].drop i, np := W.meetings.length + W.turns.length + W.facts.length + i } : Bk).app (.limit i c) = { Bk.start W.people W.versions W.last with meetings := W.meetings, turns := W.turns, facts := W.facts, limits := W.limits.take (i + 1) ++ [some 1, none, none, none].drop (i + 1), np := W.meetings.length + W.turns.length + W.facts.length + (i + 1) } := by
      obtain ⟨l0, l1, l2, l3, hl⟩ := four hok.li.1
      rw [hl] at g1 ⊢
      match i, hi with
      | 0, _ => cases g1; rfl
      | 1, _ => cases g1; rfl
      | 2, _ => cases g1; rfl
      | 3, _ => cases g1; rfl
    walk_at "hbr"
    refine meth_bk hb rfl rfl ?_
    refine ⟨by decide, ?_⟩
    walk_at "hbr"
    refine ⟨_, ek, q_dget (hWf _ hf) rfl (ixQ (hdf _ hf) hdk e1 ?_)⟩
    exact ⟨k, _, i, c, rfl, hb, ⟨hi, g2⟩, by show W.meetings.length + W.turns.length + W.facts.length + i < 1000; omega, fun m2 hb2 hf2 => ⟨by rw [e2] at hb2; exact hb2, hf.trans hf2, _, _, _, rfl⟩⟩
  rintro Γ m5 ⟨hb5, hf5, x, y, z, rfl⟩
  clear hG
  subst hR
  walk_at "hbr"
  refine endN (h k m5 (W.meetings.length + W.turns.length + W.facts.length + 4) (by omega) hN ?_ hf5)
  have e : W.limits.take 4 ++ ([some 1, none, none, none] : List (Option Nat)).drop 4 = W.limits := by
    have := hok.li.1
    rw [List.take_of_length_le (by omega)]; simp
  rw [e] at hb5
  exact hb5
end
set_option Elab.async false
set_option linter.all false
set_option maxRecDepth 100000
set_option maxHeartbeats 4000000
section
open PySem L2 TL
/-! what is shown is short -/
structure Fit (p : PyData) (n d : Nat) : Prop where
  lay : p.canLay0 = true
  shrt : p.intsShort 13 = true
  sh : p.showable = true
  dep : p.depth ≤ d
  wt : p.weight ≤ n
structure Fits (ps : List PyData) (n d : Nat) : Prop where
  lay : PyData.canLayAll0 ps = true
  shrt : PyData.intsShortAll 13 ps = true
  sh : PyData.showableAll ps = true
  dep : PyData.depthAll ps ≤ d
  wt : PyData.weightAll ps ≤ n
theorem fits_nil (d : Nat) : Fits [] 0 d := ⟨by simp only [PyData.canLayAll0], by simp only [PyData.intsShortAll], by simp only [PyData.showableAll], by simp only [PyData.depthAll]; omega, by simp only [PyData.weightAll]; omega⟩
theorem fits_cons {p : PyData} {ps : List PyData} {n k d : Nat} (h : Fit p n d) (h' : Fits ps k d) : Fits (p :: ps) (n + 1 + k) d := by
  refine ⟨?_, ?_, ?_, ?_, ?_⟩
  · simp only [PyData.canLayAll0, h.lay, h'.lay, Bool.and_self]
  · simp only [PyData.intsShortAll, h.shrt, h'.shrt, Bool.and_self]
  · simp only [PyData.showableAll, h.sh, h'.sh, Bool.and_self]
  · simp only [PyData.depthAll]; have := h.dep; have := h'.dep; omega
  · simp only [PyData.weightAll]; have := h.wt; have := h'.wt; omega
theorem fit_non : Fit .none 0 0 := ⟨by simp only [PyData.canLay0], by simp only [PyData.intsShort], by simp only [PyData.showable], by simp only [PyData.depth]; omega, by simp only [PyData.weight]; omega⟩
theorem fit_bl (b : Bool) : Fit (.bool b) 0 0 := ⟨by simp only [PyData.canLay0], by simp only [PyData.intsShort], by simp only [PyData.showable], by simp only [PyData.depth]; omega, by simp only [PyData.weight]; omega⟩
theorem fit_str {x : Str} {n : Nat} (h : PyData.strOk x = true) (hl : x.length ≤ n) : Fit (.str x) n 0 := ⟨by simp only [PyData.canLay0]; exact h, by simp only [PyData.intsShort], by simp only [PyData.showable], by simp only [PyData.depth]; omega, by simp only [PyData.weight]; exact hl⟩
theorem fit_name {x : Str} (h : NameOK x) : Fit (.str x) 10 0 := fit_str (name_ok h) (by have := h.len; omega)
theorem fit_int {n : Nat} (h : n ≤ 30) : Fit (.int (n : Nat)) 10 0 := by
  refine ⟨by simp only [PyData.canLay0], ?_, ?_, by simp only [PyData.depth]; omega, ?_⟩
  · have := num_len h
    simp only [PyData.intsShort, PyData.shown]
    refine decide_eq_true ?_
    show (numS n).length ≤ 13
    omega
  · simp only [PyData.showable]
    refine decide_eq_true (small_log ?_)
    omega
  · simp only [PyData.weight]
    split
    · omega
    · have : ((n : Int).natAbs).log2 < 5 := by
        rw [Nat.log2_lt (by simp_all)]
        omega
      omega
theorem fit_mono {p : PyData} {n k d e : Nat} (h : Fit p n d) (h1 : n ≤ k) (h2 : d ≤ e) : Fit p k e := ⟨h.lay, h.shrt, h.sh, Nat.le_trans h.dep h2, Nat.le_trans h.wt h1⟩
theorem fits_mono {p : List PyData} {n k d e : Nat} (h : Fits p n d) (h1 : n ≤ k) (h2 : d ≤ e) : Fits p k e := ⟨h.lay, h.shrt, h.sh, Nat.le_trans h.dep h2, Nat.le_trans h.wt h1⟩
theorem fit_tup {ps : List PyData} {n d : Nat} (h : Fits ps n d) : Fit (.tuple ps) n (d + 1) := ⟨by simp only [PyData.canLay0]; exact h.lay, by simp only [PyData.intsShort]; exact h.shrt, by simp only [PyData.showable]; exact h.sh, by simp only [PyData.depth]; have := h.dep; omega, by simp only [PyData.weight]; exact h.wt⟩
theorem fit_lst {ps : List PyData} {n d : Nat} (h : Fits ps n d) : Fit (.list ps) n (d + 1) := ⟨by simp only [PyData.canLay0]; exact h.lay, by simp only [PyData.intsShort]; exact h.shrt, by simp only [PyData.showable]; exact h.sh, by simp only [PyData.depth]; have := h.dep; omega, by simp only [PyData.weight]; exact h.wt⟩
theorem fits_map {A : Type} {f : A → PyData} {n d : Nat} : ∀ {xs : List A}, (∀ x ∈ xs, Fit (f x) n d) → Fits (xs.map f) (xs.length * (n + 1)) d
  | [], _ => by simpa using fits_nil d
  | x :: xs, h => by
    have := fits_cons (h x (by simp)) (fits_map (xs := xs) fun y hy => h y (List.mem_cons_of_mem _ hy))
    rw [List.map_cons, List.length_cons, Nat.succ_mul, Nat.add_comm]
    exact this
theorem fit_len {p : PyData} {n d : Nat} (h : Fit p n d) (hn : n ≤ 5000) : p.shown.length ≤ 1000000 := by
  have := PyData.shown_le 13 (by decide) p (PyData.leavesShort_of_canLay0 13 p h.lay h.shrt)
  have := h.wt
  have : (13 + 2) * p.weight ≤ 15 * 5000 := Nat.mul_le_mul_left _ (by omega)
  omega
/-- repr of data that fits -/
theorem q_repr {d : D} {p : PyData} {n e : Nat} {m : Mem} {Q : PD} (hp : toPy d = some p) (h : Fit p n e) (hn : n ≤ 5000) (he : e ≤ 60) (nb : ∀ b, d ≠ .bl b) (ns : ∀ x, d ≠ .str x) (hq : Q (.str p.shown) m) : rhoRepr [d] m Q :=
  ⟨p, hp, h.sh, Nat.le_trans h.dep he, fit_len h hn, nb, ns, hq⟩
theorem strs_py (xs : List Str) : toPys (xs.map .str) = some (xs.map .str) := by
  induction xs with
  | nil => simp only [List.map_nil, toPys]
  | cons x xs ih => simp only [List.map_cons, toPys, toPy, ih]
theorem fit_names {xs : List Str} (h : ∀ z ∈ xs, NameOK z) (hl : xs.length ≤ 8) : Fit (.list (xs.map .str)) 100 1 := by
  have := fits_map (f := PyData.str) (n := 10) (d := 0) (xs := xs) fun x hx => fit_name (h x hx)
  exact fit_lst (fits_mono this (by omega) (Nat.le_refl _))
theorem fit_pS {o : Option Str} (h : OptOK NameOK o) : Fit (pS o) 10 0 := by
  cases o with
  | none => exact fit_mono fit_non (by omega) (Nat.le_refl _)
  | some x => exact fit_name h
theorem fit_pN {o : Option Nat} (h : OptN (· ≤ 30) o) : Fit (pN o) 10 0 := by
  cases o with
  | none => exact fit_mono fit_non (by omega) (Nat.le_refl _)
  | some x => exact fit_int h
theorem fit_words {c : Cl} (h : c.ok) : Fit (.tuple c.py) 100 1 := by
  have k : ∀ s : Str, PyData.strOk s = true → s.length ≤ 10 → Fit (.str s) 10 0 := fun s h1 h2 => fit_str h1 h2
  have k1 := k "knew" (by decide +kernel) (by decide +kernel)
  have k2 := k "told" (by decide +kernel) (by decide +kernel)
  have k3 := k "began" (by decide +kernel) (by decide +kernel)
  have k4 := k "held" (by decide +kernel) (by decide +kernel)
  have k5 := k "turned" (by decide +kernel) (by decide +kernel)
  cases c with
  | knew p d v => exact fit_mono (fit_tup (fits_cons k1 (fits_cons (fit_name h.1) (fits_cons (fit_int h.2.1) (fits_cons (fit_pS h.2.2) (fits_nil 0)))))) (by omega) (Nat.le_refl _)
  | told t g f l => exact fit_mono (fit_tup (fits_cons k2 (fits_cons (fit_pS h.1) (fits_cons (fit_pS h.2.1) (fits_cons (fit_int h.2.2.1) (fits_cons (fit_pN h.2.2.2) (fits_nil 0))))))) (by omega) (Nat.le_refl _)
  | began p v => exact fit_mono (fit_tup (fits_cons k3 (fits_cons (fit_name h.1) (fits_cons (fit_pS h.2) (fits_nil 0))))) (by omega) (Nat.le_refl _)
  | held j => exact fit_mono (fit_tup (fits_cons k4 (fits_cons (fit_int h) (fits_nil 0)))) (by omega) (Nat.le_refl _)
  | turned p o n => exact fit_mono (fit_tup (fits_cons k5 (fits_cons (fit_name h.1) (fits_cons (fit_pS h.2.1) (fits_cons (fit_pS h.2.2) (fits_nil 0)))))) (by omega) (Nat.le_refl _)
def Mt.py (x : Mt) : PyData := .tuple [.int (x.day : Nat), .str x.one, .str x.two, .bool x.sure]
theorem mt_py (x : Mt) : toPy x.d = some x.py := by simp only [Mt.d, toPy, toPys, Mt.py]
theorem mts_py (xs : List Mt) : toPys (xs.map Mt.d) = some (xs.map Mt.py) := by
  induction xs with
  | nil => simp only [List.map_nil, toPys]
  | cons x xs ih => simp only [List.map_cons, toPys, mt_py, ih]
theorem fit_mts {xs : List Mt} (h : ∀ x ∈ xs, (Deed.meet x).ok) (hl : xs.length ≤ 24) : Fit (.list (xs.map Mt.py)) 2000 2 := by
  have := fits_map (f := Mt.py) (n := 40) (d := 1) (xs := xs) fun x hx => by
    obtain ⟨h1, h2, h3⟩ := h x hx
    exact fit_mono (fit_tup (fits_cons (fit_int h1) (fits_cons (fit_name h2) (fits_cons (fit_name h3) (fits_cons (fit_bl x.sure) (fits_nil 0)))))) (by omega) (Nat.le_refl _)
  exact fit_lst (fits_mono this (by omega) (Nat.le_refl _))
theorem fit_tns {xs : List Tn} (h : ∀ x ∈ xs, x.names) (hl : xs.length ≤ 6) : Fit (.list (xs.map fun x => .tuple [.str x.who, .str x.old, .str x.new])) 2000 2 := by
  have := fits_map (f := fun x : Tn => PyData.tuple [.str x.who, .str x.old, .str x.new]) (n := 40) (d := 1) (xs := xs) fun x hx => by
    obtain ⟨h1, h2, h3⟩ := h x hx
    exact fit_mono (fit_tup (fits_cons (fit_name h1) (fits_cons (fit_name h2) (fits_cons (fit_name h3) (fits_nil 0))))) (by omega) (Nat.le_refl _)
  exact fit_lst (fits_mono this (by omega) (Nat.le_refl _))
theorem ons_py (xs : List (Option Nat)) : toPys (xs.map oN) = some (xs.map pN) := by
  induction xs with
  | nil => simp only [List.map_nil, toPys]
  | cons x xs ih => simp only [List.map_cons, toPys, toPy_oN, ih]
theorem fit_ons {xs : List (Option Nat)} (h : ∀ x ∈ xs, OptN (· ≤ 30) x) (hl : xs.length = 4) : Fit (.tuple (xs.map pN)) 100 1 := by
  have := fits_map (f := pN) (n := 10) (d := 0) (xs := xs) fun x hx => fit_pN (h x hx)
  exact fit_tup (fits_mono this (by omega) (Nat.le_refl _))
end
set_option Elab.async false
set_option linter.all false
set_option maxRecDepth 100000
set_option maxHeartbeats 4000000
section
open PySem L2 TL
variable {K : PySem.W.Frag} {a : Ad} {ds : List D} {m m' m'' : Mem} {P : PD} {k : BkA} {B : Bk}
/-! shown alike -/
def T__law_same (a : Ad) : PT1 := fun ds m P => ∃ d r, ds = [d, rowD r] ∧ IsCl a d r ∧ r.2.ok ∧ P (.bl true) m
theorem p__law_same (Y : Ty K a) (h : T__law_same a ds m P) : s__law_same K a T__law_bool (ends1 P) (startG N__law_same ds) m := by
  obtain ⟨d, r, rfl, hd, hr, h⟩ := h
  have hrow : rowD r = .tup [.bl r.1, .tup r.2.words] := rfl
  rw [hrow]
  have hp : toPy (.tup r.2.words) = some (.tuple r.2.py) := by simp only [toPy, toPys_words]
  unfold s__law_same
  refine seq_step fun R hR => ?_
  refine if_step fun S U hS hU => ?_
  clear hS
  walk_at "hbr"
  refine isi_cl Y hd ?_
  walk_at "hbr"
  refine sFld_clp hd rfl ?_
  refine ⟨r.1, r.1, rfl, ?_⟩
  rw [decide_eq_true rfl]
  show U _ _
  rw [hU]
  clear hU
  walk_at "hbr"
  subst hR
  walk_at "hbr"
  refine sFld_cl hd rfl ?_
  refine q_repr hp (fit_words hr) (by omega) (by omega) (fun b e => by cases e) (fun x e => by cases e) ?_
  refine q_repr hp (fit_words hr) (by omega) (by omega) (fun b e => by cases e) (fun x e => by cases e) ?_
  show ∃ m'', Le m'' m ∧ P (.bl (xor false (decide ((PyData.tuple r.2.py).shown = (PyData.tuple r.2.py).shown)))) m''
  rw [decide_eq_true rfl]
  exact endN h
theorem q_notin {n : Nat} {m : Mem} {Q : PD} (h : Q (.bl true) m) : rhoIn true (.bl false) (.lst ((List.range n).map fun _ => D.bl true)) m Q := by
  refine ⟨(List.range n).map fun _ => true, ?_, ?_⟩
  · show List.map _ _ = _
    rw [List.map_map]; rfl
  · have : decide (false ∈ (List.range n).map fun _ => true) = false := decide_eq_false (by simp)
    rw [this]
    exact h
def T__law_fact_shows (a : Ad) : PT1 := fun ds m P => ∃ d rs, ds = [d, factD rs] ∧ IsClause a d rs ∧ rs.length ≤ 100 ∧ (∀ r ∈ rs, r.2.ok) ∧ P (.bl true) m
theorem p__law_fact_shows (Y : Ty K a) (h : T__law_fact_shows a ds m P) : s__law_fact_shows K a (T_Clause_claims a) (T__law_same a) (ends1 P) (startG N__law_fact_shows ds) m := by
  obtain ⟨d, rs, rfl, ⟨xs, rfl, hx⟩, hl, hr, h⟩ := h
  have hxl := paired_len hx
  unfold s__law_fact_shows factD
  refine seq_step fun R hR => ?_
  unfold sMeth
  walk_at "hbr"
  refine ⟨⟨_, ⟨rfl, rfl⟩, rfl⟩, xs, rfl, ?_⟩
  subst hR
  refine seq_step fun R hR => ?_
  refine if_step fun S U hS hU => ?_
  clear hS
  walk_at "hbr"
  refine isi_cs Y ?_
  walk_at "hbr"
  rw [List.length_map, decide_eq_true (by omega)]
  walk_at "hbr"
  rw [hU]
  clear hU
  walk_at "hbr"
  subst hR
  unfold sLc iRange
  walk_at "hbr"
  refine ⟨rs.length, by rw [List.length_map], by omega, fun _ => true, fun _ => .bl true, by omega, fun i p out hi hp => ⟨rfl, rfl, fun _ => ?_⟩, fun _ _ _ => trivial, ?_⟩
  · obtain ⟨c, e1, e2⟩ := paired_at' hx hi
    refine ⟨c, e1, rowD rs[i], by rw [List.getElem?_map, List.getElem?_eq_getElem hi]; rfl, c, rs[i], rfl, e2, hr _ (List.getElem_mem hi), rfl, rfl⟩
  · rw [filter_all]
    exact q_notin (endN h)
/-! in the book as in the world -/
def rowPy (r : Row) : PyData := .tuple [.bool r.1, .tuple r.2.py]
theorem row_py (r : Row) : toPy (rowD r) = some (rowPy r) := by simp only [rowD, toPy, toPys, toPys_words, rowPy]
theorem rows_py (rs : List Row) : toPys (rs.map rowD) = some (rs.map rowPy) := by
  induction rs with
  | nil => simp only [List.map_nil, toPys]
  | cons r rs ih => simp only [List.map_cons, toPys, row_py, ih]
theorem row_eqv (r s : Row) : PyData.eqv (rowPy r) (rowPy s) = decide (r = s) := by
  obtain ⟨b, c⟩ := r
  obtain ⟨b', c'⟩ := s
  unfold rowPy
  rw [ev_tup, ea_cons, ea_cons, ea_nil, eqv_words]
  have : PyData.eqv (.bool b) (.bool b') = decide (b = b') := by simp only [PyData.eqv]; exact beqD b b'
  rw [this]
  by_cases q1 : b = b' <;> by_cases q2 : c = c' <;> simp [q1, q2]
theorem rows_any (r : Row) (rs : List Row) : ((rs.map rowPy).any fun z => PyData.eqv z (rowPy r)) = decide (r ∈ rs) := by
  induction rs with
  | nil => simp
  | cons s rs ih =>
    rw [List.map_cons, List.any_cons, ih, row_eqv]
    by_cases e : s = r
    · subst e; simp
    · have : r ≠ s := Ne.symm e
      by_cases e2 : r ∈ rs <;> simp [e, e2, this]
theorem fit_row {r : Row} (h : r.2.ok) : Fit (rowPy r) 200 2 := fit_mono (fit_tup (fits_cons (fit_mono (fit_bl r.1) (Nat.le_refl _) (by omega)) (fits_cons (fit_words h) (fits_nil 1)))) (by omega) (Nat.le_refl _)
theorem fit_shaped {p : PyData} {n d : Nat} (h : Fit p n d) (hd : d ≤ 60) : SeqAt.shaped p = true := by
  unfold SeqAt.shaped
  rw [h.lay, Bool.true_and]
  exact decide_eq_true (by have := h.dep; omega)
theorem q_in_rows {neg : Bool} {r : Row} {rs : List Row} {m : Mem} {Q : PD} (hr : r.2.ok) (hs : ∀ s ∈ rs, s.2.ok) (h : Q (.bl (xor neg (decide (r ∈ rs)))) m) : rhoIn neg (rowD r) (.lst (rs.map rowD)) m Q := by
  refine ⟨_, _, _, rfl, row_py r, rows_py rs, fit_shaped (fit_row hr) (by omega), fit_shaped (fit_lst (fits_map fun s hs' => fit_row (hs s hs'))) (by omega), ?_⟩
  rw [rows_any]
  exact h
def plainIx (fss : List (List Row)) : List Nat := (List.range fss.length).filter fun i => decide ((fss.getD i []).length = 1)
def plainOf (fss : List (List Row)) : List Row := (plainIx fss).map fun i => (fss.getD i []).getD 0 (true, .held 0)
theorem plain_mem {fss : List (List Row)} {r : Row} : r ∈ plainOf fss ↔ [r] ∈ fss := by
  unfold plainOf plainIx
  rw [List.mem_map]
  constructor
  · rintro ⟨i, hi, e⟩
    rw [List.mem_filter, List.mem_range] at hi
    obtain ⟨h1, h2⟩ := hi
    have e1 : fss.getD i [] = fss[i] := by simp [List.getD, h1]
    rw [e1] at e h2
    have hm := List.getElem_mem h1
    generalize fss[i] = rs at *
    match rs, of_decide_eq_true h2 with
    | [s], _ =>
      have : s = r := e
      subst this
      exact hm
  · intro h
    obtain ⟨i, hi, e⟩ := List.mem_iff_getElem.mp h
    have e1 : fss.getD i [] = [r] := by rw [← e]; simp [List.getD, hi]
    refine ⟨i, ?_, ?_⟩
    · rw [List.mem_filter, List.mem_range, e1]
      exact ⟨hi, by simp⟩
    · rw [e1]; rfl
def T__law_within (a : Ad) : PT1 := fun ds m P => ∃ (k : BkA) (B : Bk) (w : Addr) (l : Option Addr) (W : Bk) (rows : List Row), ds = [.ref k.p, .ref w, .lst (rows.map rowD)] ∧ BookAt a m k B ∧ B.fine ∧ WdAt m w l W ∧ B.facts = W.facts ∧ W.facts.length ≤ 100 ∧ (∀ rs ∈ W.facts, ∀ r ∈ rs, r.2.ok) ∧ (∀ r ∈ rows, r.2.ok) ∧ P (.bl true) m
theorem p__law_within (h : T__law_within a ds m P) : s__law_within K a (T_Book_contains a) (T__law_claim a) (ends1 P) (startG N__law_within ds) m := by
  obtain ⟨k, B, w, l, W, rows, rfl, hb, hf, hW, hfe, hfl, hok, hrk, h⟩ := h
  obtain ⟨dl, hw, _, _⟩ := hW.get
  have hpk : ∀ s ∈ plainOf W.facts, s.2.ok := fun s hs => hok _ (plain_mem.mp hs) s (by simp)
  unfold s__law_within
  refine seq_step fun R hR => ?_
  unfold sLc iLst
  walk_at "hbr"
  refine q_dget hw rfl ?_
  walk_at "hbr"
  refine ⟨fun i => decide ((W.facts.getD i []).length = 1), fun i => rowD ((W.facts.getD i []).getD 0 (true, .held 0)), by rw [List.length_map]; omega, fun i p out hi hp => ?_, fun _ _ _ => trivial, ?_⟩
  · rw [List.length_map] at hi
    rw [dgetM hi]
    have e1 : W.facts.getD i [] = W.facts[i] := by simp [List.getD, hi]
    unfold factD
    walk_at "hbr"
    rw [List.length_map, e1]
    refine ⟨by rw [decide_eq_decide]; omega, fun hl => ?_⟩
    have hl' : W.facts[i].length = 1 := by have := of_decide_eq_true hl; omega
    clear hl e1
    generalize W.facts[i] = rs at *
    match rs, hl' with
    | [s], _ => exact ⟨_, rfl, rfl⟩
  · have epl : ((List.range (W.facts.map factD).length).filter fun i => decide ((W.facts.getD i []).length = 1)).map (fun i => rowD ((W.facts.getD i []).getD 0 (true, .held 0))) = (plainOf W.facts).map rowD := by
      rw [List.length_map]
      unfold plainOf plainIx
      rw [List.map_map]; rfl
    rw [epl]
    generalize hpl : plainOf W.facts = pl at *
    subst hR
    refine seq_step fun R hR => ?_
    refine for_step fun G hG => ?_
    unfold iLst
    walk_at "hbr"
    refine ⟨fun i Γ m' => m' = m ∧ ∃ y, Γ = [some (.ref k.p), some (.ref w), some (.lst (rows.map rowD)), some (.lst (pl.map rowD)), y, none], ⟨rfl, _, rfl⟩, fun _ _ _ _ _ => trivial, ?_, ?_⟩
    · rintro i Γ m' hi ⟨rfl, y, rfl⟩
      rw [List.length_map] at hi
      rw [dgetM hi, hG]
      clear hG
      have hrr := hrk _ (List.getElem_mem hi)
      generalize rows[i] = r at *
      simp only [gN]
      refine if_step fun S U hS hU => ?_
      clear hS
      walk_at "hbr"
      refine ⟨r, rfl, fun d hd => ⟨⟨_, _, hb.at_, rfl⟩, k, B, d, r, rfl, hb, hf, hd, hrr, _, rfl, ?_⟩⟩
      refine q_in_rows hrr hpk ?_
      walk_at "hbr"
      have e : decide ([r] ∈ B.facts) = decide (r ∈ pl) := by
        rw [decide_eq_decide, hfe, ← hpl]; exact plain_mem.symm
      rw [e, Bool.false_xor, decide_eq_true rfl]
      show U _ _
      rw [hU]
      walk_at "hbr"
      exact ⟨_, rfl⟩
    · rintro Γ m' ⟨rfl, y, rfl⟩
      clear hG
      subst hR
      exact endN h
end
set_option Elab.async false
set_option linter.all false
set_option maxRecDepth 100000
set_option maxHeartbeats 4000000
section
open PySem L2 TL
variable {K : PySem.W.Frag} {a : Ad} {ds : List D} {m m' m'' : Mem} {P : PD} {k : BkA} {B : Bk}
/-! the book shows the world -/
theorem q_ne_same {s : Str} {m : Mem} {Q : PD} (h : Q (.bl false) m) : rhoEq true (.str s) (.str s) m Q := by
  show Q (.bl (xor true (decide (s = s)))) m
  rw [decide_eq_true rfl]
  exact h
theorem noB1 {xs : List D} : ∀ b, D.lst xs ≠ .bl b := fun b e => by cases e
theorem noS1 {xs : List D} : ∀ x, D.lst xs ≠ .str x := fun b e => by cases e
theorem noB2 {xs : List D} : ∀ b, D.tup xs ≠ .bl b := fun b e => by cases e
theorem noS2 {xs : List D} : ∀ x, D.tup xs ≠ .str x := fun b e => by cases e
theorem noB3 (o : Option Nat) : ∀ b, oN o ≠ .bl b := fun b e => by cases o <;> cases e
theorem noS3 (o : Option Nat) : ∀ x, oN o ≠ .str x := fun b e => by cases o <;> cases e
theorem lst_py {ds : List D} {ps : List PyData} (h : toPys ds = some ps) : toPy (.lst ds) = some (.list ps) := by simp only [toPy, h]
theorem tup_py {ds : List D} {ps : List PyData} (h : toPys ds = some ps) : toPy (.tup ds) = some (.tuple ps) := by simp only [toPy, h]
theorem q_turns {j : Nat} {Γ : GEnv} {Q : PD} (hb : BookAt a m k B) (hj : Γ[j]? = some (some (.ref k.p))) (h : Q (.lst (B.turns.map Tn.d)) m) : sMeth (a.g "Book") "turns" (T_Book_turns a) (sVar j) aNil Γ m Q :=
  meth_bk hb hj rfl ⟨k, B, rfl, hb, h⟩
theorem q_limits {j : Nat} {Γ : GEnv} {Q : PD} (hb : BookAt a m k B) (hj : Γ[j]? = some (some (.ref k.p))) (h : Q (.tup (B.limits.map oN)) m) : sMeth (a.g "Book") "limits" (T_Book_limits a) (sVar j) aNil Γ m Q :=
  meth_bk hb hj rfl ⟨k, B, rfl, hb, h⟩
def T__law_shows (a : Ad) : PT1 := fun ds m P => ∃ (k : BkA) (B : Bk) (w : Addr) (l : Option Addr) (W : Bk) (n : Nat), ds = [.ref k.p, .ref w] ∧ BookAt a m k B ∧ WdAt m w l W ∧ WOK W ∧ B = { W with np := n } ∧ P (.bl true) m
theorem p__law_shows (Y : Ty K a) (h : T__law_shows a ds m P) : s__law_shows K a (T_Book_people a) (T_Book_versions a) (T_Book_meetings a) (T_Book_turns a) (T_Book_limits a) (T_Book_begin_limit a) (T_Book_len a) (T_Book_facts a) (T_Book_text a) T__law_lines (T__law_within a) (T__law_fact_shows a) (ends1 P) (startG N__law_shows ds) m := by
  obtain ⟨k, B, w, l, W, n, rfl, hb, hW, hok, hBW, h⟩ := h
  obtain ⟨dl, hw, hdl, hdl'⟩ := hW.get
  have hg := good_of hok
  obtain ⟨h1, h2, h3, h4, h5, h6, h7, h8, h9, h10⟩ := hg.head
  have hmt := hok.mt
  have htn := hok.tn
  have hfa := hok.fa
  have hdk : (∃ x, dl = .lst x) ∨ ∃ x, dl = .ref x := by
    rcases hdl' with e | ⟨x, e, _⟩
    · exact .inl ⟨_, e⟩
    · exact .inr ⟨x, e⟩
  have fli : ∀ x ∈ W.limits, OptN (· ≤ 30) x := fun x hx => by
    have := hok.li.2 x hx
    cases x with
    | none => trivial
    | some n => have : n ≤ 24 := this; show n ≤ 30; omega
  have hB : B.people = W.people ∧ B.versions = W.versions ∧ B.last = W.last ∧ B.meetings = W.meetings ∧ B.turns = W.turns ∧ B.facts = W.facts ∧ B.limits = W.limits := by rw [hBW]; exact ⟨rfl, rfl, rfl, rfl, rfl, rfl, rfl⟩
  obtain ⟨b1, b2, b3, b4, b5, b6, b7⟩ := hB
  have fine : B.fine := ⟨fun y hy => hg.tn y (by rw [← b5]; exact hy), fun rs hrs => by
    obtain ⟨_, g2, g3⟩ := hg.fa rs (by rw [← b6]; exact hrs)
    exact ⟨g2, g3⟩⟩
  have goodB : B.good := by rw [hBW]; exact ⟨hg.head, hg.mt, hg.tn, hg.fa, hg.li, hg.few⟩
  have linesE : B.lines = W.lines := by rw [hBW]; rfl
  have rokk : ∀ rs ∈ W.facts, ∀ r ∈ rs, r.2.ok := fun rs hrs => (hg.fa rs hrs).2.2
  unfold s__law_shows
  refine seq_step fun R hR => ?_
  refine if_step fun S U hS hU => ?_
  clear hS
  walk_at "hbr"
  refine q_people hb rfl ?_
  rw [b1]
  refine q_repr (lst_py (strs_py _)) (fit_names h1 h4) (by omega) (by omega) noB1 noS1 ?_
  refine q_dget hw rfl ?_
  refine q_repr (lst_py (strs_py _)) (fit_names h1 h4) (by omega) (by omega) noB1 noS1 ?_
  refine q_ne_same ?_
  (first | walk_at "hbr" | skip)
  refine q_versions hb rfl ?_
  rw [b2]
  refine q_repr (lst_py (strs_py _)) (fit_names h5 (by omega)) (by omega) (by omega) noB1 noS1 ?_
  refine q_dget hw rfl ?_
  refine q_repr (lst_py (strs_py _)) (fit_names h5 (by omega)) (by omega) (by omega) noB1 noS1 ?_
  refine q_ne_same ?_
  show U _ _
  rw [hU]
  clear hU
  walk_at "hbr"
  subst hR
  refine seq_step fun R hR => ?_
  refine if_step fun S U hS hU => ?_
  clear hS
  walk_at "hbr"
  refine sFld_bk hb rfl rfl ?_
  rw [b3]
  refine q_repr (p := .int (W.last : Nat)) (by simp only [toPy]) (fit_int h10) (by omega) (by omega) (fun b e => by cases e) (fun b e => by cases e) ?_
  refine q_dget hw rfl ?_
  refine q_repr (p := .int (W.last : Nat)) (by simp only [toPy]) (fit_int h10) (by omega) (by omega) (fun b e => by cases e) (fun b e => by cases e) ?_
  refine q_ne_same ?_
  (first | walk_at "hbr" | skip)
  refine q_meetings hb rfl ?_
  rw [b4]
  refine q_repr (lst_py (mts_py _)) (fit_mts hg.mt (by omega)) (by omega) (by omega) noB1 noS1 ?_
  refine q_dget hw rfl ?_
  refine q_repr (lst_py (mts_py _)) (fit_mts hg.mt (by omega)) (by omega) (by omega) noB1 noS1 ?_
  refine q_ne_same ?_
  show U _ _
  rw [hU]
  clear hU
  walk_at "hbr"
  subst hR
  refine seq_step fun R hR => ?_
  refine if_step fun S U hS hU => ?_
  clear hS
  walk_at "hbr"
  refine q_turns hb rfl ?_
  rw [b5]
  refine q_repr (lst_py (tns_py _)) (fit_tns hg.tn (by omega)) (by omega) (by omega) noB1 noS1 ?_
  refine q_dget hw rfl ?_
  refine q_repr (lst_py (tns_py _)) (fit_tns hg.tn (by omega)) (by omega) (by omega) noB1 noS1 ?_
  refine q_ne_same ?_
  (first | walk_at "hbr" | skip)
  refine q_limits hb rfl ?_
  rw [b7]
  refine q_repr (tup_py (ons_py _)) (fit_ons fli hok.li.1) (by omega) (by omega) noB2 noS2 ?_
  refine q_dget hw rfl ?_
  have qt : ∀ Q : PD, Q (.tup (W.limits.map oN)) m → rhoTuple [dl] m Q := fun Q hq => ⟨_, hdl, hq⟩
  refine qt _ ?_
  refine q_repr (tup_py (ons_py _)) (fit_ons fli hok.li.1) (by omega) (by omega) noB2 noS2 ?_
  refine q_ne_same ?_
  show U _ _
  rw [hU]
  clear hU
  walk_at "hbr"
  subst hR
  refine seq_step fun R hR => ?_
  refine if_step fun S U hS hU => ?_
  clear hS
  unfold sProp
  walk_at "hbr"
  obtain ⟨c, g1, g2⟩ := hg.li 0 (by decide)
  refine ⟨⟨_, hb.at_⟩, k, B, c, rfl, hb, by rw [b7]; exact g1, ?_⟩
  refine q_repr (toPy_oN c) (fit_pN (fli c (List.mem_of_getElem? g1))) (by omega) (by omega) (noB3 c) (noS3 c) ?_
  refine q_dget hw rfl (ixQ (i := 0) (v := oN c) hdl hdk (by rw [List.getElem?_map, g1]; rfl) ?_)
  refine q_repr (toPy_oN c) (fit_pN (fli c (List.mem_of_getElem? g1))) (by omega) (by omega) (noB3 c) (noS3 c) ?_
  refine q_ne_same ?_
  unfold rhoLenO
  (first | walk_at "hbr" | skip)
  refine ⟨⟨_, _, hb.at_, rfl⟩, k, B, rfl, hb, _, rfl, by rw [b6]; omega, ?_⟩
  refine q_dget hw rfl ?_
  (first | walk_at "hbr" | skip)
  rw [List.length_map, b6, decide_eq_true rfl]
  show U _ _
  rw [hU]
  clear hU
  walk_at "hbr"
  subst hR
  refine seq_step fun R hR => ?_
  walk_at "hbr"
  refine meth_bk hb rfl rfl ⟨k, B, rfl, hb, fun fs hfs hp => ?_⟩
  rw [b6] at hp
  have hfl := paired_len hp
  subst hR
  refine seq_step fun R hR => ?_
  refine if_step fun S U hS hU => ?_
  clear hS
  walk_at "hbr"
  refine ⟨.type "list", true, rfl, Y.kl, ?_⟩
  (first | walk_at "hbr" | skip)
  refine q_dget hw rfl ?_
  (first | walk_at "hbr" | skip)
  rw [List.length_map, hfl, decide_eq_true rfl]
  show U _ _
  rw [hU]
  clear hU
  walk_at "hbr"
  subst hR
  refine seq_step fun R hR => ?_
  refine if_step fun S U hS hU => ?_
  clear hS
  walk_at "hbr"
  refine meth_bk hb rfl rfl ⟨k, B, rfl, hb, goodB, ?_⟩
  rw [linesE]
  (first | walk_at "hbr" | skip)
  refine ⟨w, l, W, rfl, hW, hg, hok.li.1, ?_⟩
  obtain ⟨z1, z2⟩ := lines_len hg
  have z3 := sum_le z1
  have z4 : ("\n" : Str).length = 1 := by decide +kernel
  (first | walk_at "hbr" | skip)
  refine ⟨W.lines, rfl, by rw [z4]; omega, ?_⟩
  rw [decide_eq_true rfl]
  show U _ _
  rw [hU]
  clear hU
  walk_at "hbr"
  subst hR
  refine seq_step fun R hR => ?_
  refine for_step fun G hG => ?_
  unfold iLst
  walk_at "hbr"
  refine q_dget hw rfl ?_
  (first | walk_at "hbr" | skip)
  refine ⟨fun i Γ m' => m' = m ∧ ∃ y, Γ = [some (.ref k.p), some (.ref w), some (.lst fs), y, none, none], ⟨rfl, _, rfl⟩, fun _ _ _ _ _ => trivial, ?_, ?_⟩
  · rintro i Γ m' hi ⟨rfl, y, rfl⟩
    rw [List.length_map] at hi
    rw [dgetM hi, hG]
    clear hG
    obtain ⟨g1, g2, g3⟩ := hg.fa _ (List.getElem_mem hi)
    generalize W.facts[i] = rs at *
    simp only [gN, factD]
    refine if_step fun S U hS hU => ?_
    clear hS
    unfold sLc iLst
    walk_at "hbr"
    refine ⟨fun _ => true, fun i => rowD ((rs.map fun r : Row => (!r.1, r.2)).getD i (true, .held 0)), by rw [List.length_map]; omega, fun i' p out hi' hp => ⟨rfl, rfl, fun _ => ?_⟩, fun _ _ _ => trivial, ?_⟩
    · rw [List.length_map] at hi'
      rw [dgetM hi']
      have e : (rs.map fun r : Row => (!r.1, r.2)).getD i' (true, .held 0) = (!rs[i'].1, rs[i'].2) := by simp [List.getD, hi']
      generalize rs[i'] = r at *
      have hrow : rowD r = .tup [.bl r.1, .tup r.2.words] := rfl
      rw [hrow]
      walk_at "hbr"
      refine ⟨by simp, ?_⟩
      show _ = rowD ((rs.map fun r : Row => (!r.1, r.2)).getD i' (true, .held 0))
      rw [e]
      rfl
    · have e2 : ((List.range (rs.map rowD).length).filter fun _ => true).map (fun i => rowD ((rs.map fun r : Row => (!r.1, r.2)).getD i (true, .held 0))) = (rs.map fun r : Row => (!r.1, r.2)).map rowD := by
        rw [filter_all, List.length_map, List.map_map]
        exact map_range (fun r : Row => rowD (!r.1, r.2)) fun i hi => by simp [List.getD, hi]
      rw [e2, ← List.map_append]
      refine ⟨by rw [List.length_map, List.length_map, List.length_map]; omega, ?_⟩
      refine ⟨k, B, w, l, W, rs ++ rs.map fun r : Row => (!r.1, r.2), rfl, hb, fine, hW, b6, by omega, rokk, ?_, ?_⟩
      · intro r hr
        rcases List.mem_append.mp hr with hr | hr
        · exact g3 r hr
        · obtain ⟨s, hs, rfl⟩ := List.mem_map.mp hr; exact g3 s hs
      · show U _ _
        rw [hU]
        walk_at "hbr"
        exact ⟨_, rfl⟩
  · rintro Γ m' ⟨rfl, y, rfl⟩
    clear hG
    subst hR
    unfold sLc iRange
    walk_at "hbr"
    refine ⟨fs.length, rfl, by omega, fun _ => true, fun _ => .bl true, by omega, fun i p out hi hp' => ⟨rfl, rfl, fun _ => ?_⟩, fun _ _ _ => trivial, ?_⟩
    · have hi' : i < W.facts.length := by omega
      obtain ⟨c, e1, e2⟩ := paired_at' hp hi'
      have hwp : mset m' p (.lst out) w = some (.dic (worldKv W dl)) := by rw [mset_ne (mem_ne hw hp')]; exact hw
      refine ⟨c, e1, q_dget hwp rfl ?_⟩
      (first | walk_at "hbr" | skip)
      refine ⟨factD W.facts[i], by rw [List.getElem?_map, List.getElem?_eq_getElem hi']; rfl, c, W.facts[i], rfl, e2, ?_, rokk _ (List.getElem_mem hi'), rfl, rfl⟩
      have := (hg.fa _ (List.getElem_mem hi')).2.1
      omega
    · rw [filter_all]
      exact q_notin (endN h)
end
set_option Elab.async false
set_option linter.all false
set_option maxRecDepth 100000
set_option maxHeartbeats 4000000
section
open PySem L2 TL
variable {K : PySem.W.Frag} {a : Ad} {ds : List D} {m m' m'' : Mem} {P : PD} {k : BkA} {B : Bk}
/-! nothing to undo -/
def U_undo (a : Ad) : List D → Mem → Prop := fun ds m => ∃ k B, ds = [.ref k.p] ∧ BookAt a m k B ∧ B.np = 0
def T__law_nothing (a : Ad) : PT1 := fun ds m P => ∃ k B, ds = [.ref k.p] ∧ BookAt a m k B ∧ B.np = 0 ∧ P (.bl true) m
theorem p__law_nothing (h : T__law_nothing a ds m P) : s__law_nothing K a (U_undo a) (ends1 P) (startG N__law_nothing ds) m := by
  obtain ⟨k, B, rfl, hb, hn, h⟩ := h
  unfold s__law_nothing
  refine seq_step fun R hR => ?_
  unfold sCaught
  walk_at "hbr"
  exact ⟨⟨_, hb.at_, rfl⟩, ⟨k, B, rfl, hb, hn⟩, endN h⟩
/-! the law -/
theorem q_slv1 {so s1 : SE} {Γ : GEnv} {m : Mem} {P : PD} : sSl so (oSome s1) oNo Γ m P = so Γ m fun d m1 => s1 Γ m1 fun x m2 => match x with | .int k => slD d (some k) none m2 P | _ => False := by
  unfold sSl oSome oNo slD
  rfl
theorem q_slv2 {so s1 s2 : SE} {Γ : GEnv} {m : Mem} {P : PD} : sSl so (oSome s1) (oSome s2) Γ m P = so Γ m fun d m1 => s1 Γ m1 fun x m2 => match x with | .int j => s2 Γ m2 (fun y m3 => match y with | .int k => slD d (some j) (some k) m3 P | _ => False) | _ => False := by
  unfold sSl oSome slD
  rfl
theorem lines_len2 {W : Bk} : W.lines.length = 3 + W.meetings.length + W.turns.length + W.facts.length + 4 := by
  unfold Bk.lines headLines
  simp only [List.length_append, List.length_map, List.length_range, List.length_cons, List.length_nil]
theorem linesA (W : Bk) : headLines W.people W.versions W.last ++ (deedsA W).map Deed.line = W.lines := by
  unfold deedsA Bk.lines limDeeds
  simp only [List.map_append, List.map_map, List.append_assoc, List.drop_zero]
  rfl
theorem deedsA_len {W : Bk} (hok : WOK W) : (deedsA W).length ≤ 100 := by
  have := hok.mt
  have := hok.tn
  have := hok.fa
  unfold deedsA limDeeds
  simp only [List.length_append, List.length_map, List.length_drop, List.length_range]
  omega
theorem deedsB_len {W : Bk} (hok : WOK W) (j : Nat) : (deedsB W j).length ≤ 100 := by
  have := hok.mt
  have := hok.tn
  have := hok.fa
  unfold deedsB limDeeds
  simp only [List.length_append, List.length_map, List.length_drop, List.length_range]
  omega
theorem WdAt.frame {k : BkA} {w : Addr} {l : Option Addr} {W : Bk} (h : WdAt m w l W) (f : ∀ x o, m x = some o → m' x = some o) : WdAt m' w l W := by
  obtain ⟨dl, h1, h2⟩ := h.at_
  refine ⟨dl, f _ _ h1, ?_⟩
  cases l with
  | none => exact h2
  | some x => exact ⟨h2.1, h2.2.1, f _ _ h2.2.2⟩
theorem keep_new {k : BkA} (hN : New k m) (hF : Fr k m m') : ∀ x o, m x = some o → m' x = some o := fun x o hx => by
  have : x ∉ k.all := fun hk => by rw [hN x hk] at hx; cases hx
  rw [hF x this]; exact hx
theorem BxAt.keep {b : Addr} (h : BxAt m b) (f : ∀ x o, m x = some o → m' x = some o) : BxAt m' b := by
  obtain ⟨x, hx, h1⟩ := h
  exact ⟨x, f _ _ hx, h1⟩
end
set_option Elab.async false
set_option linter.all false
set_option maxRecDepth 100000
set_option maxHeartbeats 4000000
section
open PySem L2 TL
variable {K : PySem.W.Frag} {a : Ad} {ds : List D} {m m' m'' : Mem} {P : PD} {k : BkA} {B : Bk}
/-! the lines, cut -/
theorem cutMap (xs : List Str) (j k : Nat) (hj : j ≤ k) (hk : k ≤ xs.length) : cutD (xs.map D.str) (some (j : Int)) (some (k : Int)) = ((xs.drop j).take (k - j)).map .str := by
  rw [cut_mid _ j k hj (by rw [List.length_map]; exact hk), List.map_take, List.map_drop]
theorem cutApp (as bs cs : List Str) : cutD ((as ++ (bs ++ cs)).map D.str) (some (as.length : Nat)) (some ((as.length + bs.length : Nat) : Int)) = bs.map .str := by
  rw [cutMap _ _ _ (by omega) (by simp only [List.length_append]; omega), List.drop_left, Nat.add_sub_cancel_left, List.take_left]
theorem cutEnd (as bs : List Str) : cutD ((as ++ bs).map D.str) (some (as.length : Nat)) none = bs.map .str := by
  rw [cut_from, ← List.map_drop, List.drop_left]
theorem cutBeg (as bs : List Str) : cutD ((as ++ bs).map D.str) none (some (as.length : Nat)) = as.map .str := by
  rw [cut_to, ← List.map_take, List.take_left]
end
set_option Elab.async false
set_option linter.all false
set_option maxRecDepth 100000
set_option maxHeartbeats 4000000
section
open PySem L2 TL
variable {K : PySem.W.Frag} {a : Ad} {ds : List D} {m m' m'' : Mem} {P : PD} {k : BkA} {B : Bk}
/-! the law's own theorem -/
def T_law : PT1 := fun ds m P => ∃ ns : List Int, ds = [.scr ns] ∧ ∀ m', P (.bl true) m'
theorem p_law (Y : Ty K a) (h : T_law ds m P) : s_law K a T__law_box T__law_world T__law_limits T__law_lines (T_Book_read a) (T__law_shows a) (T_Book_text a) (T__law_nothing a) (T__law_build a) T__law_take (ends1 P) (startG N_law ds) m := by
  obtain ⟨ns, rfl, h⟩ := h
  have nlen : ("\n" : Str).length = 1 := by decide +kernel
  unfold s_law
  refine seq_step fun R hR => ?_
  walk_at "hbr"
  refine ⟨ns, rfl, fun b m1 hb0 hb1 hfr1 => ?_⟩
  subst hR
  refine seq_step fun R hR => ?_
  walk_at "hbr"
  refine ⟨b, rfl, hb1, fun W0 w m2 hw0 hwb hok0 hW0 hb2 hfr2 => ?_⟩
  subst hR
  refine seq_step fun R hR => ?_
  walk_at "hbr"
  refine ⟨b, w, W0, rfl, hb2, hwb, hW0, fun l ls m3 hl0 hlb hlw hls4 hlsb hW3 hb3 hfr3 => ?_⟩
  obtain ⟨W, hWd⟩ : ∃ W : Bk, W = { W0 with limits := ls } := ⟨_, rfl⟩
  rw [← hWd] at hW3
  have hok : WOK W := by
    rw [hWd]
    exact ⟨hok0.head, hok0.mt, hok0.mto, hok0.mtu, hok0.tn, hok0.tno, hok0.tnd, hok0.fa, fun rs hrs => by
      obtain ⟨q1, q2, q3⟩ := hok0.fao rs hrs
      exact ⟨q1, q2, fun r hr => suits_eq rfl rfl rfl rfl (q3 r hr)⟩, hls4, hlsb⟩
  clear hWd hW0 hfr1 hfr2 hfr3 hok0 hls4 hlsb
  have hg := good_of hok
  obtain ⟨z1, z2⟩ := lines_len hg
  have z3 := sum_le z1
  have hllen := lines_len2 (W := W)
  obtain ⟨rA1, rA2⟩ := runsA hok
  have lA := linesA W
  subst hR
  refine seq_step fun R hR => ?_
  walk_at "hbr"
  refine ⟨w, some l, W, rfl, hW3, hg, hok.li.1, ?_⟩
  subst hR
  refine seq_step fun R hR => ?_
  walk_at "hbr"
  refine ⟨W.lines, rfl, by rw [nlen]; omega, ?_⟩
  subst hR
  refine seq_step fun R hR => ?_
  unfold sCMeth
  walk_at "hbr"
  refine ⟨W.people, W.versions, W.last, deedsA W, by rw [lA], hok.head, rA1, deedsA_len hok, fun k m4 hN4 hB4 hF4 => ?_⟩
  rw [rA2] at hB4
  have kp4 := keep_new hN4 hF4
  have hW4 := hW3.frame (k := k) kp4
  have hb4 := hb3.keep kp4
  subst hR
  refine seq_step fun R hR => ?_
  refine if_step fun S U hS hU => ?_
  clear hS
  walk_at "hbr"
  have good0 : ({ W with np := 0 } : Bk).good := ⟨hg.head, hg.mt, hg.tn, hg.fa, hg.li, hg.few⟩
  refine ⟨.ref (a.g "Book"), true, .inr ⟨_, _, hB4.at_, rfl, Y.bk.1⟩, Y.bk.2, ?_⟩
  (first | walk_at "hbr" | skip)
  refine ⟨k, _, w, some l, W, 0, rfl, hB4, hW4, hok, rfl, ?_⟩
  (first | walk_at "hbr" | skip)
  refine meth_bk hB4 rfl rfl ⟨k, _, rfl, hB4, good0, ?_⟩
  refine q_ne_same ?_
  (first | walk_at "hbr" | skip)
  refine ⟨k, _, rfl, hB4, rfl, ?_⟩
  show U _ _
  rw [hU]
  clear hU
  walk_at "hbr"
  subst hR
  refine seq_step fun R hR => ?_
  refine if_step fun S U hS hU => ?_
  clear hS
  unfold sCMeth sMeth
  walk_at "hbr"
  refine ⟨w, some l, W, rfl, hW4, hok, fun k2 m5 n2 hn2 hN5 hB5 hF5 => ?_⟩
  have good2 : ({ W with np := n2 } : Bk).good := ⟨hg.head, hg.mt, hg.tn, hg.fa, hg.li, hg.few⟩
  refine ⟨⟨_, hB5.at_, rfl⟩, k2, _, rfl, hB5, good2, ?_⟩
  have kp5 := keep_new hN5 hF5
  have hW5 := hW4.frame (k := k) kp5
  have hb5 := hb4.keep kp5
  refine ⟨W.people, W.versions, W.last, deedsA W, by rw [lA]; rfl, hok.head, rA1, deedsA_len hok, fun k3 m6 hN6 hB6 hF6 => ?_⟩
  rw [rA2] at hB6
  have kp6 := keep_new hN6 hF6
  have hW6 := hW5.frame (k := k) kp6
  have hb6 := hb5.keep kp6
  (first | walk_at "hbr" | skip)
  refine ⟨k3, _, w, some l, W, 0, rfl, hB6, hW6, hok, rfl, ?_⟩
  show U _ _
  rw [hU]
  clear hU
  walk_at "hbr"
  subst hR
  refine seq_step fun R hR => ?_
  walk_at "hbr"
  obtain ⟨dl, hw6, hdl, hdl'⟩ := hW6.get
  refine q_dget hw6 rfl ?_
  (first | walk_at "hbr" | skip)
  rw [List.length_map]
  have e1 : (3 : Int) + (W.meetings.length : Int) = ((3 + W.meetings.length : Nat) : Int) := by omega
  rw [e1]
  subst hR
  refine seq_step fun R hR => ?_
  walk_at "hbr"
  refine q_dget hw6 rfl ?_
  (first | walk_at "hbr" | skip)
  rw [List.length_map]
  have e2 : ((3 + W.meetings.length : Nat) : Int) + (W.turns.length : Int) = ((3 + W.meetings.length + W.turns.length : Nat) : Int) := by omega
  rw [e2]
  subst hR
  refine seq_step fun R hR => ?_
  walk_at "hbr"
  rw [List.length_map]
  have e3 : (W.lines.length : Int) - 4 = ((3 + W.meetings.length + W.turns.length + W.facts.length : Nat) : Int) := by omega
  rw [e3]
  subst hR
  refine seq_step fun R hR => ?_
  rw [sSet, q_slv1]
  walk_at "hbr"
  obtain ⟨HL, eH⟩ : ∃ x, x = headLines W.people W.versions W.last := ⟨_, rfl⟩
  obtain ⟨ML, eM⟩ : ∃ x, x = W.meetings.map fun x => (Deed.meet x).line := ⟨_, rfl⟩
  obtain ⟨TL, eT⟩ : ∃ x, x = W.turns.map fun x => (Deed.turn x).line := ⟨_, rfl⟩
  obtain ⟨FL, eF⟩ : ∃ x, x = W.facts.map fun x => (Deed.fact x).line := ⟨_, rfl⟩
  obtain ⟨LL, eL⟩ : ∃ x, x = (List.range 4).map fun i => (Deed.limit i (W.limits.getD i none)).line := ⟨_, rfl⟩
  have eW : W.lines = HL ++ (ML ++ (TL ++ (FL ++ LL))) := by
    rw [eH, eM, eT, eF, eL]
    unfold Bk.lines
    simp only [List.append_assoc]
  have lH : HL.length = 3 := by rw [eH]; rfl
  have lM : ML.length = W.meetings.length := by rw [eM, List.length_map]
  have lT : TL.length = W.turns.length := by rw [eT, List.length_map]
  have lF : FL.length = W.facts.length := by rw [eF, List.length_map]
  have c1 : cutD (W.lines.map D.str) (some ((3 + W.meetings.length + W.turns.length + W.facts.length : Nat) : Int)) none = LL.map .str := by
    have := cutEnd (HL ++ ML ++ TL ++ FL) LL
    rw [eW]
    simp only [List.append_assoc, List.length_append, lH, lM, lT, lF] at this
    simp only [Nat.add_assoc] at this ⊢
    exact this
  rw [c1]
  subst hR
  refine seq_step fun R hR => ?_
  have rest : ∀ (j : Nat) (W2 : Bk) (l2 : Option Addr) (M : Mem), j < 2 → W2 = { W with limits := if j = 0 then W.limits else some 1 :: W.limits.drop 1 } → WdAt M w l2 W2 → WOK W2 →
      R [some (.scr ns), some (.ref b), some (.ref w), some (.lst (W.lines.map .str)), some (.str (Txt.join "
" W.lines)), some (.ref k.p), some (.int ((3 + W.meetings.length : Nat) : Int)), some (.int ((3 + W.meetings.length + W.turns.length : Nat) : Int)), some (.int ((3 + W.meetings.length + W.turns.length + W.facts.length : Nat) : Int)), some (.lst ((LL.drop j).map .str)), none, none] M := by
    intro j W2 l2 M hj hW2 hWM hok2
    rw [hR]
    clear hR
    have c0 : cutD (W.lines.map D.str) none (some 3) = HL.map .str := by
      have := cutBeg HL (ML ++ (TL ++ (FL ++ LL)))
      rw [lH] at this
      rw [eW]
      exact this
    have c2 : cutD (W.lines.map D.str) (some 3) (some ((3 + W.meetings.length : Nat) : Int)) = ML.map .str := by
      have := cutApp HL ML (TL ++ (FL ++ LL))
      rw [lH, lM] at this
      rw [eW]
      exact this
    have c3 : cutD (W.lines.map D.str) (some ((3 + W.meetings.length : Nat) : Int)) (some ((3 + W.meetings.length + W.turns.length : Nat) : Int)) = TL.map .str := by
      have := cutApp (HL ++ ML) TL (FL ++ LL)
      rw [List.length_append, lH, lM, lT, List.append_assoc] at this
      rw [eW]
      exact this
    have c4 : cutD (W.lines.map D.str) (some ((3 + W.meetings.length + W.turns.length : Nat) : Int)) (some ((3 + W.meetings.length + W.turns.length + W.facts.length : Nat) : Int)) = FL.map .str := by
      have := cutApp (HL ++ ML ++ TL) FL LL
      rw [List.length_append, List.length_append, lH, lM, lT, lF, List.append_assoc, List.append_assoc] at this
      rw [eW]
      exact this
    refine seq_step fun R hR => ?_
    walk_at "hbr"
    have lL : LL.length = 4 := by rw [eL]; rfl
    have lL2 : (LL.drop j).length ≤ 4 := by rw [List.length_drop]; omega
    have bM := hok.mt
    have bT := hok.tn
    have bF := hok.fa
    rw [c0]
    refine ⟨by simp only [List.length_map]; omega, ?_⟩
    rw [q_slv2]
    walk_at "hbr"
    rw [c2]
    refine ⟨by simp only [List.length_map, List.length_append]; omega, ?_⟩
    rw [q_slv2]
    walk_at "hbr"
    rw [c4]
    refine ⟨by simp only [List.length_map, List.length_append]; omega, ?_⟩
    rw [q_slv2]
    walk_at "hbr"
    rw [c3]
    refine ⟨by simp only [List.length_map, List.length_append]; omega, ?_⟩
    have eMv : HL.map D.str ++ (LL.drop j).map D.str ++ ML.map D.str ++ FL.map D.str ++ TL.map D.str = (headLines W.people W.versions W.last ++ (deedsB W j).map Deed.line).map D.str := by
      rw [← eH]
      unfold deedsB limDeeds
      rw [eL, eM, eF, eT]
      simp only [List.map_append, List.map_map, List.map_drop, List.append_assoc]
      rfl
    rw [eMv]
    obtain ⟨rB1, rB2⟩ := runsB hok hj
    subst hR
    refine seq_step fun R hR => ?_
    unfold sCMeth
    walk_at "hbr"
    have hdo := runs_ok rB1
    have hll : ∀ z ∈ headLines W.people W.versions W.last ++ (deedsB W j).map Deed.line, z.length ≤ 500 := fun z hz => by
      rcases List.mem_append.mp hz with hz | hz
      · exact head_len hok.head z hz
      · obtain ⟨d, hd, rfl⟩ := List.mem_map.mp hz; exact deed_len (hdo d hd)
    have hls := sum_le hll
    have hlc := deedsB_len hok j
    refine ⟨_, rfl, by rw [nlen]; simp only [List.length_append, List.length_map, headLines, List.length_cons, List.length_nil] at hls ⊢; omega, ?_⟩
    refine ⟨W.people, W.versions, W.last, deedsB W j, rfl, hok.head, rB1, hlc, fun k4 m7 hN7 hB7 hF7 => ?_⟩
    rw [rB2] at hB7
    have hB7 : BookAt a m7 k4 { W2 with np := 0 } := by rw [hW2]; exact hB7
    have kp7 := keep_new hN7 hF7
    have hW7 := hWM.frame (k := k) kp7
    have hg2 := good_of hok2
    have good7 : ({ W2 with np := 0 } : Bk).good := ⟨hg2.head, hg2.mt, hg2.tn, hg2.fa, hg2.li, hg2.few⟩
    obtain ⟨y1, y2⟩ := lines_len hg2
    have y3 := sum_le y1
    subst hR
    walk_at "hbr"
    refine ⟨k4, _, w, l2, W2, 0, rfl, hB7, hW7, hok2, rfl, ?_⟩
    (first | walk_at "hbr" | skip)
    refine ⟨k4, _, rfl, hB7, rfl, ?_⟩
    (first | walk_at "hbr" | skip)
    refine meth_bk hB7 rfl rfl ⟨k4, _, rfl, hB7, good7, ?_⟩
    (first | walk_at "hbr" | skip)
    refine ⟨w, l2, W2, rfl, hW7, hg2, hok2.li.1, ?_⟩
    (first | walk_at "hbr" | skip)
    refine ⟨W2.lines, rfl, by rw [nlen]; omega, ?_⟩
    rw [decide_eq_true (by rfl)]
    exact endN (h m7)
  clear hR
  refine if_step fun S U hS hU => ?_
  have no : ∀ M, WdAt M w (some l) W → U [some (.scr ns), some (.ref b), some (.ref w), some (.lst (W.lines.map .str)), some (.str (Txt.join "
" W.lines)), some (.ref k.p), some (.int ((3 + W.meetings.length : Nat) : Int)), some (.int ((3 + W.meetings.length + W.turns.length : Nat) : Int)), some (.int ((3 + W.meetings.length + W.turns.length + W.facts.length : Nat) : Int)), some (.lst (LL.map .str)), none, none] M := fun M hM => by
    rw [hU]
    exact rest 0 W (some l) M (by decide) rfl hM hok
  obtain ⟨W2, hW2⟩ : ∃ W2 : Bk, W2 = { W with limits := some 1 :: W.limits.drop 1 } := ⟨_, rfl⟩
  have hok2 : WOK W2 := by
    rw [hW2]
    exact ⟨hok.head, hok.mt, hok.mto, hok.mtu, hok.tn, hok.tno, hok.tnd, hok.fa, fun rs hrs => by
      obtain ⟨q1, q2, q3⟩ := hok.fao rs hrs
      exact ⟨q1, q2, fun r hr => suits_eq rfl rfl rfl rfl (q3 r hr)⟩, by
      have := hok.li.1
      show (some 1 :: W.limits.drop 1).length = 4
      rw [List.length_cons, List.length_drop]; omega, fun c hc => by
      rcases List.mem_cons.mp hc with rfl | hc
      · show 1 ≤ 24; decide
      · exact hok.li.2 c (List.mem_of_mem_drop hc)⟩
  have lim2 : W2.limits.map oN = [D.int 1] ++ (W.limits.map oN).drop 1 := by
    rw [hW2, ← List.map_drop]; rfl
  have yes : ∀ M, WdAt M w (some l) W → S [some (.scr ns), some (.ref b), some (.ref w), some (.lst (W.lines.map .str)), some (.str (Txt.join "
" W.lines)), some (.ref k.p), some (.int ((3 + W.meetings.length : Nat) : Int)), some (.int ((3 + W.meetings.length + W.turns.length : Nat) : Int)), some (.int ((3 + W.meetings.length + W.turns.length + W.facts.length : Nat) : Int)), some (.lst (LL.map .str)), none, none] M := fun M hM => by
    rw [hS]
    clear hS hU no
    obtain ⟨dl, hwM, hlM⟩ := hM.at_
    obtain ⟨rfl, hlw', hl'⟩ := hlM
    refine seq_step fun R' hR' => ?_
    walk_at "hbr"
    rw [cut1, ← List.map_drop]
    subst hR'
    walk_at "hbr"
    refine ⟨by decide, q_dget hwM rfl ?_⟩
    (first | walk_at "hbr" | skip)
    refine ⟨_, hl', ?_⟩
    rw [cut1]
    refine ⟨by simp; have := hok.li.1; omega, w, _, _, rfl, rfl, hwM, ?_, ?_, ?_⟩
    · show (["people", "versions", "last", "meetings", "turns", "facts", "limits"] : List Str).Nodup
      decide +kernel
    · show 7 < 900
      decide
    refine rest 1 W2 none _ (by decide) hW2 ⟨⟨.lst (W2.limits.map oN), ?_, rfl⟩⟩ hok2
    rw [lim2, hW2]
    exact mset_same
  clear hS hU
  walk_at "hbr"
  refine take_do (n := 3) hb6 (by decide) (by decide) fun t m7 ht d7 => ?_
  have hW7 : WdAt m7 w (some l) W := by
    obtain ⟨dl, g1, g2, g3, g4⟩ := hW6.at_
    exact ⟨⟨dl, by rw [d7.2 w hwb]; exact g1, g2, g3, by rw [d7.2 l hlb]; exact g4⟩⟩
  walk_at "hbr"
  cases decide ((t : Int) = 1) with
  | true => exact yes m7 hW7
  | false => exact no m7 hW7
end
end HB
set_option Elab.async false
set_option linter.all false
set_option maxRecDepth 100000
set_option maxHeartbeats 4000000
/-! every def keeps its promise (printed by genj.py) -/
namespace HB
open PySem L2 PySem.Spec PyProof.Rows NdefX
section
variable {P : Program} {w : World} {K : PySem.W.Frag} {mg : Str → Option Value} {base : Heap} {k : Nat} {f : Addr} {name qual : Str} {params : Arguments} {body : List Stmt} {scope : Scope} {dvs : List V} {kws : List (Str × V)} {fd : FuncData} {N ps : List Str} {T : PT1} {s : SS} {g : Bool}
/-- a def called with all but its last parameters; these come from its defaults -/
theorem fnQ_dflt {dd : List D} {dv : List V} {du : List Value} (F : FunD K name qual params body scope dvs kws f fd) (S : FnScope N ps scope) (hb : Binds K fd ps du) (hv : Vals dv du) (hi : ∀ (H : Hp) (m : Mem), Iss K H m dd dv)
    (hl : ∀ ds m Pd, T ds m Pd → ds.length = ps.length) (hB : Body g P w K mg base k N qual scope f body s) (hp : ∀ ds m Pd, T ds m Pd → s (ends1 Pd) (startG N ds) m) : FnQ g P w K mg base (k + 1) f (fun ds m P => T (ds ++ dd) m P) := by
  intro A outer st H us vs Q hr hg e0 rv h
  obtain ⟨oc, od, dV, kV, doc, pm, an, cdv, ct, osl, rfl, lk, hcd, _, _⟩ := F.ex
  obtain ⟨ds, m, Pd, i, o, hT, hq⟩ := h
  have i2 : Iss K H m (ds ++ dd) (vs ++ dv) := i.append (hi H m)
  have hlen : (vs ++ dv).length = ps.length := by rw [i2.length]; exact hl _ m Pd hT
  have rv2 : Vals (vs ++ dv) (us ++ du) := rv.append hv
  have KX : K.In st.heap := e0.mod.kin.keeps fun b o e => (e0.bs b o e).1
  have h2 : SpG K T (vs ++ dv) H Q := ⟨_, m, Pd, i2, o, hT, hq⟩
  refine StX.run_bnd (G := fun ws H2 => ws = vs ++ dv ∧ H2 = H) (E := E0) lk hcd S hr e0 (fun A' Ex Q' hQ => ?_) fun s2 H2 ws hG hr' => ?_
  · exact hb st us KX (by rw [← rv2.length]; exact hlen) _ _ _ _ (hQ st H (vs ++ dv) (us ++ du) e0 Un.refl rfl (fun _ _ z => z) rv2 hlen ⟨rfl, rfl⟩)
  · obtain ⟨rfl, rfl⟩ := hG
    exact body_run hB hp hr' hg h2
theorem FnQ.imp {T' : PT1} (F : FnQ g P w K mg base k f T) (h : ∀ ds m Pd, T' ds m Pd → T ds m Pd) : FnQ g P w K mg base k f T' := fun A outer st H us vs Q hr hg e0 rv hs => by
  obtain ⟨ds, m, Pd, i, o, hT, hq⟩ := hs
  exact F A outer st H us vs Q hr hg e0 rv ⟨ds, m, Pd, i, o, h ds m Pd hT, hq⟩
theorem undo_test {a : Ad} {k : BkA} {B : Bk} {m : Mem} (hb : BookAt a m k B) (hn : B.np = 0) : (sTest (sBin (rhoEq false) (sBlt rhoLen (aCons (sFld (GBook a) "_past" (sVar 0)) aNil)) (sC (.int 0)))) (startG ["self"] [.ref k.p]) m fun b m' => b = true ∧ m' = m := by
  obtain ⟨ps, h1, h2⟩ := hb.pa
  refine ⟨a.g "Book", bookFs k B, .ref k.q, hb.at_, rfl, rfl, ?_⟩
  have e : ps = [] := List.length_eq_zero_iff.mp (h2.trans hn)
  subst e
  exact ⟨[], h1, rfl, rfl⟩
/-- def f(a, .., *v) without defaults -/
theorem fnQ_star0 {pv : Str} (F : FunD K name qual params body scope [] kws f fd) (S : FnScope N (ps ++ [pv]) scope) (hl : ∀ ds m Pd, T ds m Pd → ds.length = ps.length + 1)
    (hb : ∀ (kV doc pm : Value) (an : Option Addr) (cdv ct : Value) (us rest : List Value), us.length = ps.length → bindArgs (PySem.W.fnOf name qual params body scope .none kV doc pm an cdv ct) ⟨us ++ rest, []⟩ = (newTuple rest >>= fun t => pure (ps.zip us ++ [(pv, t)])))
    (hB : Body false P w K mg base k N qual scope f body s) (hp : ∀ ds m Pd, T ds m Pd → s (ends1 Pd) (startG N ds) m) : FnQ false P w K mg base (k + 1) f (starT ps.length T) := by
  obtain ⟨oc, od, dV, kV, doc, pm, an, cdv, ct, osl, e, lk, hcd, hD, hK⟩ := F.ex
  rcases hD with ⟨_, rfl⟩ | ⟨z, _⟩
  · subst e
    intro A outer st H us vs Q hr hg e0 rv h
    obtain ⟨ds, m, Pd, i, o, ⟨hn, hz, hT⟩, hq⟩ := h
    have hlen := i.length
    refine StX.fn_star lk hcd S StX.cxUp_none (hb kV doc pm an cdv ct) (sp := SpE K T) (fun A outer s H vs Q E hr h => ?_) A outer st H us vs Q E0 hr e0 rv ⟨vs.take ps.length, vs.drop ps.length, (List.take_append_drop _ _).symm, by rw [List.length_take]; omega, by rw [List.length_drop]; exact line1000 (by omega), fun p hp' => ?_⟩
    · obtain ⟨t, p, l⟩ := hB cdv A outer s H E hr (fun q => nomatch q)
      obtain ⟨ds, m, Pd, i, o, hT, hq⟩ := h
      exact ⟨t, p.nox, l (L2.start N vs) H (startG N ds) m (ends1 Pd) _ (slots_start i) o (hp ds m Pd hT) (ends_ok hq)⟩
    · have nw := Step.new (m := m) (o := .tup (vs.drop ps.length)) hp'
      refine ⟨ds.take ps.length ++ [.tup (ds.drop ps.length)], m, Pd, (Iss.step nw _ (i.take _)).append (Iss.one (newTup o hp' (i.drop _))), o.new hp', hT, hq.step nw⟩
  · exact absurd rfl z
/-- what bSup says -/
theorem bSup_ok {C q : Str} {fd : FuncData} {oc : Value} {od : Option Addr} {osl : Array (Option Value)} (lk : K.lookup (mAd K C "__init__") = some ⟨oc, od, .func fd, osl⟩) (c : bSup C q K = true) :
    ∃ cc cda, fd.closure = [(("__class__" : Str), cc)] ∧ fd.code = .ref cda ∧ SuperK K PySem.Challenge.pw_heardby_k19_whole_books_read_back (He.ga K C) (mAd K C "__init__") (mAd K "Claim" "__init__") cc cda q := by
  unfold bSup at c
  rw [lk] at c
  dsimp only at c
  split at c
  · rename_i x cc cda e1 e2
    obtain ⟨c1, c⟩ := He.ba c
    obtain ⟨c2, c⟩ := He.ba c
    obtain ⟨c3, c⟩ := He.ba c
    obtain ⟨c4, c⟩ := He.ba c
    obtain ⟨c5, c⟩ := He.ba c
    obtain ⟨c6, c⟩ := He.ba c
    obtain ⟨c7, c⟩ := He.ba c
    obtain ⟨c8, c⟩ := He.ba c
    obtain ⟨c9, c10⟩ := He.ba c
    refine ⟨cc, cda, by rw [e1, of_decide_eq_true c1], e2, ⟨c2, ?_, ?_, ?_, of_decide_eq_true c6, by decide +kernel, He.eqO_ok c7, He.eqO_ok c8, ?_, c10⟩⟩
    · split at c3
      · rename_i ccl cdd vs ccs e
        split at c3
        · rename_i fl tf e'
          exact ⟨ccl, cdd, ccs, vs, fl, tf, e, e', c3⟩
        · cases c3
      · cases c3
    · split at c4
      · rename_i cl cld d csl e
        exact ⟨cl, cld, csl, by rw [e, of_decide_eq_true c4]⟩
      · cases c4
    · unfold PySem.W.isClsIn at c5
      exact Option.isSome_iff_exists.mp c5
    · exact beq_iff_eq.mp c9
  · cases c
end
section
variable {w : World} {K : PySem.W.Frag} {mg : Str → Option Value} {base : Heap}
theorem f_is_name (Z : Tx PySem.Challenge.pw_heardby_k19_whole_books_read_back w K mg (adK K)) (Y : Ty K (adK K)) (S : SaysK w K) : FnQ false PySem.Challenge.pw_heardby_k19_whole_books_read_back w K mg base 2 ((adK K).g "is_name") T_is_name := by
  obtain ⟨fd, F⟩ := S.def_ 0 (d := d_is_name) rfl rfl
  have F : FunD K "is_name" "is_name" (defArgs (top 19)) (defBody (top 19)) (defScope (top 19)) [] [] ((adK K).g "is_name") fd := F
  exact fnQ_of F sc_is_name (F.bindsN fun _ _ _ _ _ _ us hl => match us, hl with | [_], _ => rfl) (fun ds m Pd h => by first | (obtain ⟨rfl, _⟩ := h; rfl) | (obtain ⟨_, rfl, _⟩ := h; rfl) | (obtain ⟨_, _, rfl, _⟩ := h; rfl) | (obtain ⟨_, _, _, rfl, _⟩ := h; rfl) | (obtain ⟨_, _, _, _, rfl, _⟩ := h; rfl) | (obtain ⟨_, _, _, _, _, rfl, _⟩ := h; rfl) | (obtain ⟨_, _, _, _, _, _, rfl, _⟩ := h; rfl) | (obtain ⟨_, _, _, _, _, _, _, rfl, _⟩ := h; rfl) | (obtain ⟨_, _, _, _, _, _, _, _, rfl, _⟩ := h; rfl)) (b_is_name (P := PySem.Challenge.pw_heardby_k19_whole_books_read_back) (w := w) (mg := mg) (base := base) Z) (fun ds m Pd h => p_is_name h)
theorem f_check_names (Z : Tx PySem.Challenge.pw_heardby_k19_whole_books_read_back w K mg (adK K)) (Y : Ty K (adK K)) (S : SaysK w K) : FnQ false PySem.Challenge.pw_heardby_k19_whole_books_read_back w K mg base 3 ((adK K).g "check_names") T_check_names := by
  obtain ⟨fd, F⟩ := S.def_ 1 (d := d_check_names) rfl rfl
  have F : FunD K "check_names" "check_names" (defArgs (top 20)) (defBody (top 20)) (defScope (top 20)) [] [] ((adK K).g "check_names") fd := F
  exact fnQ_of F sc_check_names (F.bindsN fun _ _ _ _ _ _ us hl => match us, hl with | [_, _], _ => rfl) (fun ds m Pd h => by first | (obtain ⟨rfl, _⟩ := h; rfl) | (obtain ⟨_, rfl, _⟩ := h; rfl) | (obtain ⟨_, _, rfl, _⟩ := h; rfl) | (obtain ⟨_, _, _, rfl, _⟩ := h; rfl) | (obtain ⟨_, _, _, _, rfl, _⟩ := h; rfl) | (obtain ⟨_, _, _, _, _, rfl, _⟩ := h; rfl) | (obtain ⟨_, _, _, _, _, _, rfl, _⟩ := h; rfl) | (obtain ⟨_, _, _, _, _, _, _, rfl, _⟩ := h; rfl) | (obtain ⟨_, _, _, _, _, _, _, _, rfl, _⟩ := h; rfl)) (b_check_names (P := PySem.Challenge.pw_heardby_k19_whole_books_read_back) (w := w) (mg := mg) (base := base) Z (f_is_name Z Y S)) (fun ds m Pd h => p_check_names h)
theorem f_number_of (Z : Tx PySem.Challenge.pw_heardby_k19_whole_books_read_back w K mg (adK K)) (Y : Ty K (adK K)) (S : SaysK w K) : FnQ false PySem.Challenge.pw_heardby_k19_whole_books_read_back w K mg base 2 ((adK K).g "number_of") T_number_of := by
  obtain ⟨fd, F⟩ := S.def_ 2 (d := d_number_of) rfl rfl
  have F : FunD K "number_of" "number_of" (defArgs (top 21)) (defBody (top 21)) (defScope (top 21)) [] [] ((adK K).g "number_of") fd := F
  exact fnQ_of F sc_number_of (F.bindsN fun _ _ _ _ _ _ us hl => match us, hl with | [_], _ => rfl) (fun ds m Pd h => by first | (obtain ⟨rfl, _⟩ := h; rfl) | (obtain ⟨_, rfl, _⟩ := h; rfl) | (obtain ⟨_, _, rfl, _⟩ := h; rfl) | (obtain ⟨_, _, _, rfl, _⟩ := h; rfl) | (obtain ⟨_, _, _, _, rfl, _⟩ := h; rfl) | (obtain ⟨_, _, _, _, _, rfl, _⟩ := h; rfl) | (obtain ⟨_, _, _, _, _, _, rfl, _⟩ := h; rfl) | (obtain ⟨_, _, _, _, _, _, _, rfl, _⟩ := h; rfl) | (obtain ⟨_, _, _, _, _, _, _, _, rfl, _⟩ := h; rfl)) (b_number_of (P := PySem.Challenge.pw_heardby_k19_whole_books_read_back) (w := w) (mg := mg) (base := base) Z) (fun ds m Pd h => p_number_of h)
theorem f_claim_text (Z : Tx PySem.Challenge.pw_heardby_k19_whole_books_read_back w K mg (adK K)) (Y : Ty K (adK K)) (S : SaysK w K) : FnQ false PySem.Challenge.pw_heardby_k19_whole_books_read_back w K mg base 2 ((adK K).g "claim_text") T_claim_text := by
  obtain ⟨fd, F⟩ := S.def_ 3 (d := d_claim_text) rfl rfl
  have F : FunD K "claim_text" "claim_text" (defArgs (top 24)) (defBody (top 24)) (defScope (top 24)) [] [] ((adK K).g "claim_text") fd := F
  exact fnQ_of F sc_claim_text (F.bindsN fun _ _ _ _ _ _ us hl => match us, hl with | [_, _], _ => rfl) (fun ds m Pd h => by first | (obtain ⟨rfl, _⟩ := h; rfl) | (obtain ⟨_, rfl, _⟩ := h; rfl) | (obtain ⟨_, _, rfl, _⟩ := h; rfl) | (obtain ⟨_, _, _, rfl, _⟩ := h; rfl) | (obtain ⟨_, _, _, _, rfl, _⟩ := h; rfl) | (obtain ⟨_, _, _, _, _, rfl, _⟩ := h; rfl) | (obtain ⟨_, _, _, _, _, _, rfl, _⟩ := h; rfl) | (obtain ⟨_, _, _, _, _, _, _, rfl, _⟩ := h; rfl) | (obtain ⟨_, _, _, _, _, _, _, _, rfl, _⟩ := h; rfl)) (b_claim_text (P := PySem.Challenge.pw_heardby_k19_whole_books_read_back) (w := w) (mg := mg) (base := base) Z) (fun ds m Pd h => p_claim_text h)
theorem f_Claim_init (Z : Tx PySem.Challenge.pw_heardby_k19_whole_books_read_back w K mg (adK K)) (Y : Ty K (adK K)) (S : SaysK w K) : FnQ false PySem.Challenge.pw_heardby_k19_whole_books_read_back w K mg base 2 ((adK K).m "Claim" "__init__") (T_Claim_init (adK K)) := by
  obtain ⟨fd, F⟩ := S.def_ 4 (d := d_Claim_init) rfl rfl
  have F : FunD K "__init__" "Claim.__init__" (defArgs (inClass (top 25) 0)) (defBody (inClass (top 25) 0)) (defScope (inClass (top 25) 0)) [V.bl true] [] ((adK K).m "Claim" "__init__") fd := F
  obtain ⟨du, hv, hb⟩ := F.binds1 (ps := ["self", "words", "positive"]) 3 1 (by simp) rfl fun _ _ _ _ _ _ _ us its h1 h2 => match us, h1, its, h2 with | [_, _, _], _, [_], _ => ⟨_, rfl, rfl⟩
  cases hv
  exact fnQ_of F sc_Claim_init hb (fun ds m Pd h => by first | (obtain ⟨rfl, _⟩ := h; rfl) | (obtain ⟨_, rfl, _⟩ := h; rfl) | (obtain ⟨_, _, rfl, _⟩ := h; rfl) | (obtain ⟨_, _, _, rfl, _⟩ := h; rfl) | (obtain ⟨_, _, _, _, rfl, _⟩ := h; rfl) | (obtain ⟨_, _, _, _, _, rfl, _⟩ := h; rfl) | (obtain ⟨_, _, _, _, _, _, rfl, _⟩ := h; rfl) | (obtain ⟨_, _, _, _, _, _, _, rfl, _⟩ := h; rfl) | (obtain ⟨_, _, _, _, _, _, _, _, rfl, _⟩ := h; rfl)) (b_Claim_init (P := PySem.Challenge.pw_heardby_k19_whole_books_read_back) (w := w) (mg := mg) (base := base) Z) (fun ds m Pd h => p_Claim_init h)
theorem f_Claim_initD (Z : Tx PySem.Challenge.pw_heardby_k19_whole_books_read_back w K mg (adK K)) (Y : Ty K (adK K)) (S : SaysK w K) : FnQ false PySem.Challenge.pw_heardby_k19_whole_books_read_back w K mg base 2 ((adK K).m "Claim" "__init__") (fun ds m P => T_Claim_init (adK K) (ds ++ [.bl true]) m P) := by
  obtain ⟨fd, F⟩ := S.def_ 4 (d := d_Claim_init) rfl rfl
  have F : FunD K "__init__" "Claim.__init__" (defArgs (inClass (top 25) 0)) (defBody (inClass (top 25) 0)) (defScope (inClass (top 25) 0)) [V.bl true] [] ((adK K).m "Claim" "__init__") fd := F
  obtain ⟨du, hv, hb⟩ := F.binds1 (ps := ["self", "words", "positive"]) 2 0 (by simp) rfl fun _ _ _ _ _ _ _ us its h1 h2 => match us, h1, its, h2 with | [_, _], _, [_], _ => ⟨_, rfl, rfl⟩
  exact fnQ_dflt (dd := [.bl true]) F sc_Claim_init hb hv (fun H m => Iss.one (is_bl.mpr rfl)) (fun ds m Pd h => by first | (obtain ⟨rfl, _⟩ := h; rfl) | (obtain ⟨_, rfl, _⟩ := h; rfl) | (obtain ⟨_, _, rfl, _⟩ := h; rfl) | (obtain ⟨_, _, _, rfl, _⟩ := h; rfl) | (obtain ⟨_, _, _, _, rfl, _⟩ := h; rfl) | (obtain ⟨_, _, _, _, _, rfl, _⟩ := h; rfl) | (obtain ⟨_, _, _, _, _, _, rfl, _⟩ := h; rfl) | (obtain ⟨_, _, _, _, _, _, _, rfl, _⟩ := h; rfl) | (obtain ⟨_, _, _, _, _, _, _, _, rfl, _⟩ := h; rfl)) (b_Claim_init (P := PySem.Challenge.pw_heardby_k19_whole_books_read_back) (w := w) (mg := mg) (base := base) Z) (fun ds m Pd h => p_Claim_init h)
theorem f_Claim_invert (Z : Tx PySem.Challenge.pw_heardby_k19_whole_books_read_back w K mg (adK K)) (Y : Ty K (adK K)) (S : SaysK w K) : FnQ false PySem.Challenge.pw_heardby_k19_whole_books_read_back w K mg base 4 ((adK K).m "Claim" "__invert__") (T_Claim_invert (adK K)) := by
  obtain ⟨fd, F⟩ := S.def_ 5 (d := d_Claim_invert) rfl rfl
  have F : FunD K "__invert__" "Claim.__invert__" (defArgs (inClass (top 25) 1)) (defBody (inClass (top 25) 1)) (defScope (inClass (top 25) 1)) [] [] ((adK K).m "Claim" "__invert__") fd := F
  exact fnQ_of F sc_Claim_invert (F.bindsN fun _ _ _ _ _ _ us hl => match us, hl with | [_], _ => rfl) (fun ds m Pd h => by first | (obtain ⟨rfl, _⟩ := h; rfl) | (obtain ⟨_, rfl, _⟩ := h; rfl) | (obtain ⟨_, _, rfl, _⟩ := h; rfl) | (obtain ⟨_, _, _, rfl, _⟩ := h; rfl) | (obtain ⟨_, _, _, _, rfl, _⟩ := h; rfl) | (obtain ⟨_, _, _, _, _, rfl, _⟩ := h; rfl) | (obtain ⟨_, _, _, _, _, _, rfl, _⟩ := h; rfl) | (obtain ⟨_, _, _, _, _, _, _, rfl, _⟩ := h; rfl) | (obtain ⟨_, _, _, _, _, _, _, _, rfl, _⟩ := h; rfl)) (b_Claim_invert (P := PySem.Challenge.pw_heardby_k19_whole_books_read_back) (w := w) (mg := mg) (base := base) Z (f_Claim_init Z Y S)) (fun ds m Pd h => p_Claim_invert h)
theorem f_Clause_init (Z : Tx PySem.Challenge.pw_heardby_k19_whole_books_read_back w K mg (adK K)) (Y : Ty K (adK K)) (S : SaysK w K) : FnQ false PySem.Challenge.pw_heardby_k19_whole_books_read_back w K mg base 2 ((adK K).m "Clause" "__init__") (T_Clause_init (adK K)) := by
  obtain ⟨fd, F⟩ := S.def_ 6 (d := d_Clause_init) rfl rfl
  have F : FunD K "__init__" "Clause.__init__" (defArgs (inClass (top 31) 0)) (defBody (inClass (top 31) 0)) (defScope (inClass (top 31) 0)) [] [] ((adK K).m "Clause" "__init__") fd := F
  exact fnQ_star0 (ps := ["self"]) (pv := "claims") F sc_Clause_init (fun ds m Pd h => by first | (obtain ⟨rfl, _⟩ := h; rfl) | (obtain ⟨_, rfl, _⟩ := h; rfl) | (obtain ⟨_, _, rfl, _⟩ := h; rfl) | (obtain ⟨_, _, _, rfl, _⟩ := h; rfl) | (obtain ⟨_, _, _, _, rfl, _⟩ := h; rfl) | (obtain ⟨_, _, _, _, _, rfl, _⟩ := h; rfl) | (obtain ⟨_, _, _, _, _, _, rfl, _⟩ := h; rfl) | (obtain ⟨_, _, _, _, _, _, _, rfl, _⟩ := h; rfl) | (obtain ⟨_, _, _, _, _, _, _, _, rfl, _⟩ := h; rfl)) (fun kV doc pm an cdv ct => StX.bind_star1 (p1 := "self") (pv := "claims") (B := fun l => bindArgs (PySem.W.fnOf "__init__" "Clause.__init__" (defArgs (inClass (top 31) 0)) (defBody (inClass (top 31) 0)) (defScope (inClass (top 31) 0)) .none kV doc pm an cdv ct) ⟨l, []⟩) (fun _ => rfl) (fun _ _ _ => rfl)) (b_Clause_init (P := PySem.Challenge.pw_heardby_k19_whole_books_read_back) (w := w) (mg := mg) (base := base) Z) (fun ds m Pd h => p_Clause_init h)
theorem f_Claim_or (Z : Tx PySem.Challenge.pw_heardby_k19_whole_books_read_back w K mg (adK K)) (Y : Ty K (adK K)) (S : SaysK w K) : FnQ false PySem.Challenge.pw_heardby_k19_whole_books_read_back w K mg base 4 ((adK K).m "Claim" "__or__") (T_Claim_or (adK K)) := by
  obtain ⟨fd, F⟩ := S.def_ 7 (d := d_Claim_or) rfl rfl
  have F : FunD K "__or__" "Claim.__or__" (defArgs (inClass (top 25) 2)) (defBody (inClass (top 25) 2)) (defScope (inClass (top 25) 2)) [] [] ((adK K).m "Claim" "__or__") fd := F
  exact fnQ_of F sc_Claim_or (F.bindsN fun _ _ _ _ _ _ us hl => match us, hl with | [_, _], _ => rfl) (fun ds m Pd h => by first | (obtain ⟨rfl, _⟩ := h; rfl) | (obtain ⟨_, rfl, _⟩ := h; rfl) | (obtain ⟨_, _, rfl, _⟩ := h; rfl) | (obtain ⟨_, _, _, rfl, _⟩ := h; rfl) | (obtain ⟨_, _, _, _, rfl, _⟩ := h; rfl) | (obtain ⟨_, _, _, _, _, rfl, _⟩ := h; rfl) | (obtain ⟨_, _, _, _, _, _, rfl, _⟩ := h; rfl) | (obtain ⟨_, _, _, _, _, _, _, rfl, _⟩ := h; rfl) | (obtain ⟨_, _, _, _, _, _, _, _, rfl, _⟩ := h; rfl)) (b_Claim_or (P := PySem.Challenge.pw_heardby_k19_whole_books_read_back) (w := w) (mg := mg) (base := base) Z (f_Clause_init Z Y S)) (fun ds m Pd h => p_Claim_or Y h)
theorem f_Claim_eq (Z : Tx PySem.Challenge.pw_heardby_k19_whole_books_read_back w K mg (adK K)) (Y : Ty K (adK K)) (S : SaysK w K) : FnQ false PySem.Challenge.pw_heardby_k19_whole_books_read_back w K mg base 2 ((adK K).m "Claim" "__eq__") (T_Claim_eq (adK K)) := by
  obtain ⟨fd, F⟩ := S.def_ 8 (d := d_Claim_eq) rfl rfl
  have F : FunD K "__eq__" "Claim.__eq__" (defArgs (inClass (top 25) 3)) (defBody (inClass (top 25) 3)) (defScope (inClass (top 25) 3)) [] [] ((adK K).m "Claim" "__eq__") fd := F
  exact fnQ_of F sc_Claim_eq (F.bindsN fun _ _ _ _ _ _ us hl => match us, hl with | [_, _], _ => rfl) (fun ds m Pd h => by first | (obtain ⟨rfl, _⟩ := h; rfl) | (obtain ⟨_, rfl, _⟩ := h; rfl) | (obtain ⟨_, _, rfl, _⟩ := h; rfl) | (obtain ⟨_, _, _, rfl, _⟩ := h; rfl) | (obtain ⟨_, _, _, _, rfl, _⟩ := h; rfl) | (obtain ⟨_, _, _, _, _, rfl, _⟩ := h; rfl) | (obtain ⟨_, _, _, _, _, _, rfl, _⟩ := h; rfl) | (obtain ⟨_, _, _, _, _, _, _, rfl, _⟩ := h; rfl) | (obtain ⟨_, _, _, _, _, _, _, _, rfl, _⟩ := h; rfl)) (b_Claim_eq (P := PySem.Challenge.pw_heardby_k19_whole_books_read_back) (w := w) (mg := mg) (base := base) Z) (fun ds m Pd h => p_Claim_eq Y h)
theorem f_Claim_str (Z : Tx PySem.Challenge.pw_heardby_k19_whole_books_read_back w K mg (adK K)) (Y : Ty K (adK K)) (S : SaysK w K) : FnQ false PySem.Challenge.pw_heardby_k19_whole_books_read_back w K mg base 3 ((adK K).m "Claim" "__str__") (T_Claim_str (adK K)) := by
  obtain ⟨fd, F⟩ := S.def_ 9 (d := d_Claim_str) rfl rfl
  have F : FunD K "__str__" "Claim.__str__" (defArgs (inClass (top 25) 4)) (defBody (inClass (top 25) 4)) (defScope (inClass (top 25) 4)) [] [] ((adK K).m "Claim" "__str__") fd := F
  exact fnQ_of F sc_Claim_str (F.bindsN fun _ _ _ _ _ _ us hl => match us, hl with | [_], _ => rfl) (fun ds m Pd h => by first | (obtain ⟨rfl, _⟩ := h; rfl) | (obtain ⟨_, rfl, _⟩ := h; rfl) | (obtain ⟨_, _, rfl, _⟩ := h; rfl) | (obtain ⟨_, _, _, rfl, _⟩ := h; rfl) | (obtain ⟨_, _, _, _, rfl, _⟩ := h; rfl) | (obtain ⟨_, _, _, _, _, rfl, _⟩ := h; rfl) | (obtain ⟨_, _, _, _, _, _, rfl, _⟩ := h; rfl) | (obtain ⟨_, _, _, _, _, _, _, rfl, _⟩ := h; rfl) | (obtain ⟨_, _, _, _, _, _, _, _, rfl, _⟩ := h; rfl)) (b_Claim_str (P := PySem.Challenge.pw_heardby_k19_whole_books_read_back) (w := w) (mg := mg) (base := base) Z (f_claim_text Z Y S)) (fun ds m Pd h => p_Claim_str h)
theorem f_Clause_claims (Z : Tx PySem.Challenge.pw_heardby_k19_whole_books_read_back w K mg (adK K)) (Y : Ty K (adK K)) (S : SaysK w K) : FnQ false PySem.Challenge.pw_heardby_k19_whole_books_read_back w K mg base 2 ((adK K).m "Clause" "claims") (T_Clause_claims (adK K)) := by
  obtain ⟨fd, F⟩ := S.def_ 10 (d := d_Clause_claims) rfl rfl
  have F : FunD K "claims" "Clause.claims" (defArgs (inClass (top 31) 1)) (defBody (inClass (top 31) 1)) (defScope (inClass (top 31) 1)) [] [] ((adK K).m "Clause" "claims") fd := F
  exact fnQ_of F sc_Clause_claims (F.bindsN fun _ _ _ _ _ _ us hl => match us, hl with | [_], _ => rfl) (fun ds m Pd h => by first | (obtain ⟨rfl, _⟩ := h; rfl) | (obtain ⟨_, rfl, _⟩ := h; rfl) | (obtain ⟨_, _, rfl, _⟩ := h; rfl) | (obtain ⟨_, _, _, rfl, _⟩ := h; rfl) | (obtain ⟨_, _, _, _, rfl, _⟩ := h; rfl) | (obtain ⟨_, _, _, _, _, rfl, _⟩ := h; rfl) | (obtain ⟨_, _, _, _, _, _, rfl, _⟩ := h; rfl) | (obtain ⟨_, _, _, _, _, _, _, rfl, _⟩ := h; rfl) | (obtain ⟨_, _, _, _, _, _, _, _, rfl, _⟩ := h; rfl)) (b_Clause_claims (P := PySem.Challenge.pw_heardby_k19_whole_books_read_back) (w := w) (mg := mg) (base := base) Z) (fun ds m Pd h => p_Clause_claims h)
theorem f_Clause_or (Z : Tx PySem.Challenge.pw_heardby_k19_whole_books_read_back w K mg (adK K)) (Y : Ty K (adK K)) (S : SaysK w K) : FnQ false PySem.Challenge.pw_heardby_k19_whole_books_read_back w K mg base 4 ((adK K).m "Clause" "__or__") (T_Clause_or (adK K)) := by
  obtain ⟨fd, F⟩ := S.def_ 11 (d := d_Clause_or) rfl rfl
  have F : FunD K "__or__" "Clause.__or__" (defArgs (inClass (top 31) 2)) (defBody (inClass (top 31) 2)) (defScope (inClass (top 31) 2)) [] [] ((adK K).m "Clause" "__or__") fd := F
  exact fnQ_of F sc_Clause_or (F.bindsN fun _ _ _ _ _ _ us hl => match us, hl with | [_, _], _ => rfl) (fun ds m Pd h => by first | (obtain ⟨rfl, _⟩ := h; rfl) | (obtain ⟨_, rfl, _⟩ := h; rfl) | (obtain ⟨_, _, rfl, _⟩ := h; rfl) | (obtain ⟨_, _, _, rfl, _⟩ := h; rfl) | (obtain ⟨_, _, _, _, rfl, _⟩ := h; rfl) | (obtain ⟨_, _, _, _, _, rfl, _⟩ := h; rfl) | (obtain ⟨_, _, _, _, _, _, rfl, _⟩ := h; rfl) | (obtain ⟨_, _, _, _, _, _, _, rfl, _⟩ := h; rfl) | (obtain ⟨_, _, _, _, _, _, _, _, rfl, _⟩ := h; rfl)) (b_Clause_or (P := PySem.Challenge.pw_heardby_k19_whole_books_read_back) (w := w) (mg := mg) (base := base) Z (f_Clause_init Z Y S)) (fun ds m Pd h => p_Clause_or Y h)
theorem f_Clause_len (Z : Tx PySem.Challenge.pw_heardby_k19_whole_books_read_back w K mg (adK K)) (Y : Ty K (adK K)) (S : SaysK w K) : FnQ false PySem.Challenge.pw_heardby_k19_whole_books_read_back w K mg base 2 ((adK K).m "Clause" "__len__") (T_Clause_len (adK K)) := by
  obtain ⟨fd, F⟩ := S.def_ 12 (d := d_Clause_len) rfl rfl
  have F : FunD K "__len__" "Clause.__len__" (defArgs (inClass (top 31) 4)) (defBody (inClass (top 31) 4)) (defScope (inClass (top 31) 4)) [] [] ((adK K).m "Clause" "__len__") fd := F
  exact fnQ_of F sc_Clause_len (F.bindsN fun _ _ _ _ _ _ us hl => match us, hl with | [_], _ => rfl) (fun ds m Pd h => by first | (obtain ⟨rfl, _⟩ := h; rfl) | (obtain ⟨_, rfl, _⟩ := h; rfl) | (obtain ⟨_, _, rfl, _⟩ := h; rfl) | (obtain ⟨_, _, _, rfl, _⟩ := h; rfl) | (obtain ⟨_, _, _, _, rfl, _⟩ := h; rfl) | (obtain ⟨_, _, _, _, _, rfl, _⟩ := h; rfl) | (obtain ⟨_, _, _, _, _, _, rfl, _⟩ := h; rfl) | (obtain ⟨_, _, _, _, _, _, _, rfl, _⟩ := h; rfl) | (obtain ⟨_, _, _, _, _, _, _, _, rfl, _⟩ := h; rfl)) (b_Clause_len (P := PySem.Challenge.pw_heardby_k19_whole_books_read_back) (w := w) (mg := mg) (base := base) Z) (fun ds m Pd h => p_Clause_len h)
theorem f_Clause_str (Z : Tx PySem.Challenge.pw_heardby_k19_whole_books_read_back w K mg (adK K)) (Y : Ty K (adK K)) (S : SaysK w K) : FnQ false PySem.Challenge.pw_heardby_k19_whole_books_read_back w K mg base 6 ((adK K).m "Clause" "__str__") (T_Clause_str (adK K)) := by
  obtain ⟨fd, F⟩ := S.def_ 13 (d := d_Clause_str) rfl rfl
  have F : FunD K "__str__" "Clause.__str__" (defArgs (inClass (top 31) 5)) (defBody (inClass (top 31) 5)) (defScope (inClass (top 31) 5)) [] [] ((adK K).m "Clause" "__str__") fd := F
  exact fnQ_of F sc_Clause_str (F.bindsN fun _ _ _ _ _ _ us hl => match us, hl with | [_], _ => rfl) (fun ds m Pd h => by first | (obtain ⟨rfl, _⟩ := h; rfl) | (obtain ⟨_, rfl, _⟩ := h; rfl) | (obtain ⟨_, _, rfl, _⟩ := h; rfl) | (obtain ⟨_, _, _, rfl, _⟩ := h; rfl) | (obtain ⟨_, _, _, _, rfl, _⟩ := h; rfl) | (obtain ⟨_, _, _, _, _, rfl, _⟩ := h; rfl) | (obtain ⟨_, _, _, _, _, _, rfl, _⟩ := h; rfl) | (obtain ⟨_, _, _, _, _, _, _, rfl, _⟩ := h; rfl) | (obtain ⟨_, _, _, _, _, _, _, _, rfl, _⟩ := h; rfl)) (b_Clause_str (P := PySem.Challenge.pw_heardby_k19_whole_books_read_back) (w := w) (mg := mg) (base := base) Z (f_Claim_str Z Y S)) (fun ds m Pd h => p_Clause_str h)
theorem f_joined (Z : Tx PySem.Challenge.pw_heardby_k19_whole_books_read_back w K mg (adK K)) (Y : Ty K (adK K)) (S : SaysK w K) : FnQ false PySem.Challenge.pw_heardby_k19_whole_books_read_back w K mg base 3 ((adK K).g "joined") (T_joined (adK K)) := by
  obtain ⟨fd, F⟩ := S.def_ 14 (d := d_joined) rfl rfl
  have F : FunD K "joined" "joined" (defArgs (top 32)) (defBody (top 32)) (defScope (top 32)) [] [] ((adK K).g "joined") fd := F
  exact fnQ_of F sc_joined (F.bindsN fun _ _ _ _ _ _ us hl => match us, hl with | [_], _ => rfl) (fun ds m Pd h => by first | (obtain ⟨rfl, _⟩ := h; rfl) | (obtain ⟨_, rfl, _⟩ := h; rfl) | (obtain ⟨_, _, rfl, _⟩ := h; rfl) | (obtain ⟨_, _, _, rfl, _⟩ := h; rfl) | (obtain ⟨_, _, _, _, rfl, _⟩ := h; rfl) | (obtain ⟨_, _, _, _, _, rfl, _⟩ := h; rfl) | (obtain ⟨_, _, _, _, _, _, rfl, _⟩ := h; rfl) | (obtain ⟨_, _, _, _, _, _, _, rfl, _⟩ := h; rfl) | (obtain ⟨_, _, _, _, _, _, _, _, rfl, _⟩ := h; rfl)) (b_joined (P := PySem.Challenge.pw_heardby_k19_whole_books_read_back) (w := w) (mg := mg) (base := base) Z (f_Clause_claims Z Y S)) (fun ds m Pd h => p_joined Y h)
theorem f_read_word (Z : Tx PySem.Challenge.pw_heardby_k19_whole_books_read_back w K mg (adK K)) (Y : Ty K (adK K)) (S : SaysK w K) : FnQ false PySem.Challenge.pw_heardby_k19_whole_books_read_back w K mg base 3 ((adK K).g "read_word") T_read_word := by
  obtain ⟨fd, F⟩ := S.def_ 15 (d := d_read_word) rfl rfl
  have F : FunD K "read_word" "read_word" (defArgs (top 33)) (defBody (top 33)) (defScope (top 33)) [] [] ((adK K).g "read_word") fd := F
  exact fnQ_of F sc_read_word (F.bindsN fun _ _ _ _ _ _ us hl => match us, hl with | [_, _, _], _ => rfl) (fun ds m Pd h => by first | (obtain ⟨rfl, _⟩ := h; rfl) | (obtain ⟨_, rfl, _⟩ := h; rfl) | (obtain ⟨_, _, rfl, _⟩ := h; rfl) | (obtain ⟨_, _, _, rfl, _⟩ := h; rfl) | (obtain ⟨_, _, _, _, rfl, _⟩ := h; rfl) | (obtain ⟨_, _, _, _, _, rfl, _⟩ := h; rfl) | (obtain ⟨_, _, _, _, _, _, rfl, _⟩ := h; rfl) | (obtain ⟨_, _, _, _, _, _, _, rfl, _⟩ := h; rfl) | (obtain ⟨_, _, _, _, _, _, _, _, rfl, _⟩ := h; rfl)) (b_read_word (P := PySem.Challenge.pw_heardby_k19_whole_books_read_back) (w := w) (mg := mg) (base := base) Z (f_is_name Z Y S) (f_number_of Z Y S)) (fun ds m Pd h => p_read_word h)
theorem f_parse_claim (Z : Tx PySem.Challenge.pw_heardby_k19_whole_books_read_back w K mg (adK K)) (Y : Ty K (adK K)) (S : SaysK w K) : FnQ false PySem.Challenge.pw_heardby_k19_whole_books_read_back w K mg base 4 ((adK K).g "parse_claim") (T_parse_claim (adK K)) := by
  obtain ⟨fd, F⟩ := S.def_ 16 (d := d_parse_claim) rfl rfl
  have F : FunD K "parse_claim" "parse_claim" (defArgs (top 34)) (defBody (top 34)) (defScope (top 34)) [] [] ((adK K).g "parse_claim") fd := F
  exact fnQ_of F sc_parse_claim (F.bindsN fun _ _ _ _ _ _ us hl => match us, hl with | [_], _ => rfl) (fun ds m Pd h => by first | (obtain ⟨rfl, _⟩ := h; rfl) | (obtain ⟨_, rfl, _⟩ := h; rfl) | (obtain ⟨_, _, rfl, _⟩ := h; rfl) | (obtain ⟨_, _, _, rfl, _⟩ := h; rfl) | (obtain ⟨_, _, _, _, rfl, _⟩ := h; rfl) | (obtain ⟨_, _, _, _, _, rfl, _⟩ := h; rfl) | (obtain ⟨_, _, _, _, _, _, rfl, _⟩ := h; rfl) | (obtain ⟨_, _, _, _, _, _, _, rfl, _⟩ := h; rfl) | (obtain ⟨_, _, _, _, _, _, _, _, rfl, _⟩ := h; rfl)) (b_parse_claim (P := PySem.Challenge.pw_heardby_k19_whole_books_read_back) (w := w) (mg := mg) (base := base) Z (f_read_word Z Y S) (f_Claim_init Z Y S)) (fun ds m Pd h => p_parse_claim h)
theorem f_parse_clause (Z : Tx PySem.Challenge.pw_heardby_k19_whole_books_read_back w K mg (adK K)) (Y : Ty K (adK K)) (S : SaysK w K) : FnQ false PySem.Challenge.pw_heardby_k19_whole_books_read_back w K mg base 5 ((adK K).g "parse_clause") (T_parse_clause (adK K)) := by
  obtain ⟨fd, F⟩ := S.def_ 17 (d := d_parse_clause) rfl rfl
  have F : FunD K "parse_clause" "parse_clause" (defArgs (top 35)) (defBody (top 35)) (defScope (top 35)) [] [] ((adK K).g "parse_clause") fd := F
  exact fnQ_of F sc_parse_clause (F.bindsN fun _ _ _ _ _ _ us hl => match us, hl with | [_], _ => rfl) (fun ds m Pd h => by first | (obtain ⟨rfl, _⟩ := h; rfl) | (obtain ⟨_, rfl, _⟩ := h; rfl) | (obtain ⟨_, _, rfl, _⟩ := h; rfl) | (obtain ⟨_, _, _, rfl, _⟩ := h; rfl) | (obtain ⟨_, _, _, _, rfl, _⟩ := h; rfl) | (obtain ⟨_, _, _, _, _, rfl, _⟩ := h; rfl) | (obtain ⟨_, _, _, _, _, _, rfl, _⟩ := h; rfl) | (obtain ⟨_, _, _, _, _, _, _, rfl, _⟩ := h; rfl) | (obtain ⟨_, _, _, _, _, _, _, _, rfl, _⟩ := h; rfl)) (b_parse_clause (P := PySem.Challenge.pw_heardby_k19_whole_books_read_back) (w := w) (mg := mg) (base := base) Z (f_parse_claim Z Y S) (f_Clause_init Z Y S)) (fun ds m Pd h => p_parse_clause h)
theorem f_read_names (Z : Tx PySem.Challenge.pw_heardby_k19_whole_books_read_back w K mg (adK K)) (Y : Ty K (adK K)) (S : SaysK w K) : FnQ false PySem.Challenge.pw_heardby_k19_whole_books_read_back w K mg base 3 ((adK K).g "read_names") T_read_names := by
  obtain ⟨fd, F⟩ := S.def_ 18 (d := d_read_names) rfl rfl
  have F : FunD K "read_names" "read_names" (defArgs (top 38)) (defBody (top 38)) (defScope (top 38)) [] [] ((adK K).g "read_names") fd := F
  exact fnQ_of F sc_read_names (F.bindsN fun _ _ _ _ _ _ us hl => match us, hl with | [_, _], _ => rfl) (fun ds m Pd h => by first | (obtain ⟨rfl, _⟩ := h; rfl) | (obtain ⟨_, rfl, _⟩ := h; rfl) | (obtain ⟨_, _, rfl, _⟩ := h; rfl) | (obtain ⟨_, _, _, rfl, _⟩ := h; rfl) | (obtain ⟨_, _, _, _, rfl, _⟩ := h; rfl) | (obtain ⟨_, _, _, _, _, rfl, _⟩ := h; rfl) | (obtain ⟨_, _, _, _, _, _, rfl, _⟩ := h; rfl) | (obtain ⟨_, _, _, _, _, _, _, rfl, _⟩ := h; rfl) | (obtain ⟨_, _, _, _, _, _, _, _, rfl, _⟩ := h; rfl)) (b_read_names (P := PySem.Challenge.pw_heardby_k19_whole_books_read_back) (w := w) (mg := mg) (base := base) Z (f_is_name Z Y S)) (fun ds m Pd h => p_read_names h)
theorem f_read_last (Z : Tx PySem.Challenge.pw_heardby_k19_whole_books_read_back w K mg (adK K)) (Y : Ty K (adK K)) (S : SaysK w K) : FnQ false PySem.Challenge.pw_heardby_k19_whole_books_read_back w K mg base 3 ((adK K).g "read_last") T_read_last := by
  obtain ⟨fd, F⟩ := S.def_ 19 (d := d_read_last) rfl rfl
  have F : FunD K "read_last" "read_last" (defArgs (top 39)) (defBody (top 39)) (defScope (top 39)) [] [] ((adK K).g "read_last") fd := F
  exact fnQ_of F sc_read_last (F.bindsN fun _ _ _ _ _ _ us hl => match us, hl with | [_], _ => rfl) (fun ds m Pd h => by first | (obtain ⟨rfl, _⟩ := h; rfl) | (obtain ⟨_, rfl, _⟩ := h; rfl) | (obtain ⟨_, _, rfl, _⟩ := h; rfl) | (obtain ⟨_, _, _, rfl, _⟩ := h; rfl) | (obtain ⟨_, _, _, _, rfl, _⟩ := h; rfl) | (obtain ⟨_, _, _, _, _, rfl, _⟩ := h; rfl) | (obtain ⟨_, _, _, _, _, _, rfl, _⟩ := h; rfl) | (obtain ⟨_, _, _, _, _, _, _, rfl, _⟩ := h; rfl) | (obtain ⟨_, _, _, _, _, _, _, _, rfl, _⟩ := h; rfl)) (b_read_last (P := PySem.Challenge.pw_heardby_k19_whole_books_read_back) (w := w) (mg := mg) (base := base) Z (f_number_of Z Y S)) (fun ds m Pd h => p_read_last h)
theorem f_read_limit (Z : Tx PySem.Challenge.pw_heardby_k19_whole_books_read_back w K mg (adK K)) (Y : Ty K (adK K)) (S : SaysK w K) : FnQ false PySem.Challenge.pw_heardby_k19_whole_books_read_back w K mg base 3 ((adK K).g "read_limit") T_read_limit := by
  obtain ⟨fd, F⟩ := S.def_ 20 (d := d_read_limit) rfl rfl
  have F : FunD K "read_limit" "read_limit" (defArgs (top 40)) (defBody (top 40)) (defScope (top 40)) [] [] ((adK K).g "read_limit") fd := F
  exact fnQ_of F sc_read_limit (F.bindsN fun _ _ _ _ _ _ us hl => match us, hl with | [_, _], _ => rfl) (fun ds m Pd h => by first | (obtain ⟨rfl, _⟩ := h; rfl) | (obtain ⟨_, rfl, _⟩ := h; rfl) | (obtain ⟨_, _, rfl, _⟩ := h; rfl) | (obtain ⟨_, _, _, rfl, _⟩ := h; rfl) | (obtain ⟨_, _, _, _, rfl, _⟩ := h; rfl) | (obtain ⟨_, _, _, _, _, rfl, _⟩ := h; rfl) | (obtain ⟨_, _, _, _, _, _, rfl, _⟩ := h; rfl) | (obtain ⟨_, _, _, _, _, _, _, rfl, _⟩ := h; rfl) | (obtain ⟨_, _, _, _, _, _, _, _, rfl, _⟩ := h; rfl)) (b_read_limit (P := PySem.Challenge.pw_heardby_k19_whole_books_read_back) (w := w) (mg := mg) (base := base) Z (f_number_of Z Y S)) (fun ds m Pd h => p_read_limit h)
theorem f_read_line (Z : Tx PySem.Challenge.pw_heardby_k19_whole_books_read_back w K mg (adK K)) (Y : Ty K (adK K)) (S : SaysK w K) : FnQ false PySem.Challenge.pw_heardby_k19_whole_books_read_back w K mg base 6 ((adK K).g "read_line") (T_read_line (adK K)) := by
  obtain ⟨fd, F⟩ := S.def_ 21 (d := d_read_line) rfl rfl
  have F : FunD K "read_line" "read_line" (defArgs (top 41)) (defBody (top 41)) (defScope (top 41)) [] [] ((adK K).g "read_line") fd := F
  exact fnQ_of F sc_read_line (F.bindsN fun _ _ _ _ _ _ us hl => match us, hl with | [_], _ => rfl) (fun ds m Pd h => by first | (obtain ⟨rfl, _⟩ := h; rfl) | (obtain ⟨_, rfl, _⟩ := h; rfl) | (obtain ⟨_, _, rfl, _⟩ := h; rfl) | (obtain ⟨_, _, _, rfl, _⟩ := h; rfl) | (obtain ⟨_, _, _, _, rfl, _⟩ := h; rfl) | (obtain ⟨_, _, _, _, _, rfl, _⟩ := h; rfl) | (obtain ⟨_, _, _, _, _, _, rfl, _⟩ := h; rfl) | (obtain ⟨_, _, _, _, _, _, _, rfl, _⟩ := h; rfl) | (obtain ⟨_, _, _, _, _, _, _, _, rfl, _⟩ := h; rfl)) (b_read_line (P := PySem.Challenge.pw_heardby_k19_whole_books_read_back) (w := w) (mg := mg) (base := base) Z (f_parse_clause Z Y S) (f_read_limit Z Y S) (f_number_of Z Y S) (f_is_name Z Y S)) (fun ds m Pd h => p_read_line h)
theorem f_limit_line (Z : Tx PySem.Challenge.pw_heardby_k19_whole_books_read_back w K mg (adK K)) (Y : Ty K (adK K)) (S : SaysK w K) : FnQ false PySem.Challenge.pw_heardby_k19_whole_books_read_back w K mg base 2 ((adK K).g "limit_line") T_limit_line := by
  obtain ⟨fd, F⟩ := S.def_ 22 (d := d_limit_line) rfl rfl
  have F : FunD K "limit_line" "limit_line" (defArgs (top 42)) (defBody (top 42)) (defScope (top 42)) [] [] ((adK K).g "limit_line") fd := F
  exact fnQ_of F sc_limit_line (F.bindsN fun _ _ _ _ _ _ us hl => match us, hl with | [_, _], _ => rfl) (fun ds m Pd h => by first | (obtain ⟨rfl, _⟩ := h; rfl) | (obtain ⟨_, rfl, _⟩ := h; rfl) | (obtain ⟨_, _, rfl, _⟩ := h; rfl) | (obtain ⟨_, _, _, rfl, _⟩ := h; rfl) | (obtain ⟨_, _, _, _, rfl, _⟩ := h; rfl) | (obtain ⟨_, _, _, _, _, rfl, _⟩ := h; rfl) | (obtain ⟨_, _, _, _, _, _, rfl, _⟩ := h; rfl) | (obtain ⟨_, _, _, _, _, _, _, rfl, _⟩ := h; rfl) | (obtain ⟨_, _, _, _, _, _, _, _, rfl, _⟩ := h; rfl)) (b_limit_line (P := PySem.Challenge.pw_heardby_k19_whole_books_read_back) (w := w) (mg := mg) (base := base) Z) (fun ds m Pd h => p_limit_line h)
theorem f_check_known (Z : Tx PySem.Challenge.pw_heardby_k19_whole_books_read_back w K mg (adK K)) (Y : Ty K (adK K)) (S : SaysK w K) : FnQ false PySem.Challenge.pw_heardby_k19_whole_books_read_back w K mg base 2 ((adK K).g "check_known") T_check_known := by
  obtain ⟨fd, F⟩ := S.def_ 23 (d := d_check_known) rfl rfl
  have F : FunD K "check_known" "check_known" (defArgs (top 44)) (defBody (top 44)) (defScope (top 44)) [] [] ((adK K).g "check_known") fd := F
  exact fnQ_of F sc_check_known (F.bindsN fun _ _ _ _ _ _ us hl => match us, hl with | [_, _], _ => rfl) (fun ds m Pd h => by first | (obtain ⟨rfl, _⟩ := h; rfl) | (obtain ⟨_, rfl, _⟩ := h; rfl) | (obtain ⟨_, _, rfl, _⟩ := h; rfl) | (obtain ⟨_, _, _, rfl, _⟩ := h; rfl) | (obtain ⟨_, _, _, _, rfl, _⟩ := h; rfl) | (obtain ⟨_, _, _, _, _, rfl, _⟩ := h; rfl) | (obtain ⟨_, _, _, _, _, _, rfl, _⟩ := h; rfl) | (obtain ⟨_, _, _, _, _, _, _, rfl, _⟩ := h; rfl) | (obtain ⟨_, _, _, _, _, _, _, _, rfl, _⟩ := h; rfl)) (b_check_known (P := PySem.Challenge.pw_heardby_k19_whole_books_read_back) (w := w) (mg := mg) (base := base) Z) (fun ds m Pd h => p_check_known h)
theorem f_Book_people (Z : Tx PySem.Challenge.pw_heardby_k19_whole_books_read_back w K mg (adK K)) (Y : Ty K (adK K)) (S : SaysK w K) : FnQ false PySem.Challenge.pw_heardby_k19_whole_books_read_back w K mg base 2 ((adK K).m "Book" "people") (T_Book_people (adK K)) := by
  obtain ⟨fd, F⟩ := S.def_ 24 (d := d_Book_people) rfl rfl
  have F : FunD K "people" "Book.people" (defArgs (inClass (top 51) 14)) (defBody (inClass (top 51) 14)) (defScope (inClass (top 51) 14)) [] [] ((adK K).m "Book" "people") fd := F
  exact fnQ_of F sc_Book_people (F.bindsN fun _ _ _ _ _ _ us hl => match us, hl with | [_], _ => rfl) (fun ds m Pd h => by first | (obtain ⟨rfl, _⟩ := h; rfl) | (obtain ⟨_, rfl, _⟩ := h; rfl) | (obtain ⟨_, _, rfl, _⟩ := h; rfl) | (obtain ⟨_, _, _, rfl, _⟩ := h; rfl) | (obtain ⟨_, _, _, _, rfl, _⟩ := h; rfl) | (obtain ⟨_, _, _, _, _, rfl, _⟩ := h; rfl) | (obtain ⟨_, _, _, _, _, _, rfl, _⟩ := h; rfl) | (obtain ⟨_, _, _, _, _, _, _, rfl, _⟩ := h; rfl) | (obtain ⟨_, _, _, _, _, _, _, _, rfl, _⟩ := h; rfl)) (b_Book_people (P := PySem.Challenge.pw_heardby_k19_whole_books_read_back) (w := w) (mg := mg) (base := base) Z) (fun ds m Pd h => p_Book_people h)
theorem f_check_told (Z : Tx PySem.Challenge.pw_heardby_k19_whole_books_read_back w K mg (adK K)) (Y : Ty K (adK K)) (S : SaysK w K) : FnQ false PySem.Challenge.pw_heardby_k19_whole_books_read_back w K mg base 3 ((adK K).g "check_told") (T_check_told (adK K)) := by
  obtain ⟨fd, F⟩ := S.def_ 25 (d := d_check_told) rfl rfl
  have F : FunD K "check_told" "check_told" (defArgs (top 45)) (defBody (top 45)) (defScope (top 45)) [] [] ((adK K).g "check_told") fd := F
  exact fnQ_of F sc_check_told (F.bindsN fun _ _ _ _ _ _ us hl => match us, hl with | [_, _], _ => rfl) (fun ds m Pd h => by first | (obtain ⟨rfl, _⟩ := h; rfl) | (obtain ⟨_, rfl, _⟩ := h; rfl) | (obtain ⟨_, _, rfl, _⟩ := h; rfl) | (obtain ⟨_, _, _, rfl, _⟩ := h; rfl) | (obtain ⟨_, _, _, _, rfl, _⟩ := h; rfl) | (obtain ⟨_, _, _, _, _, rfl, _⟩ := h; rfl) | (obtain ⟨_, _, _, _, _, _, rfl, _⟩ := h; rfl) | (obtain ⟨_, _, _, _, _, _, _, rfl, _⟩ := h; rfl) | (obtain ⟨_, _, _, _, _, _, _, _, rfl, _⟩ := h; rfl)) (b_check_told (P := PySem.Challenge.pw_heardby_k19_whole_books_read_back) (w := w) (mg := mg) (base := base) Z (f_Book_people Z Y S) (f_check_known Z Y S)) (fun ds m Pd h => p_check_told h)
theorem f_Book_meetings (Z : Tx PySem.Challenge.pw_heardby_k19_whole_books_read_back w K mg (adK K)) (Y : Ty K (adK K)) (S : SaysK w K) : FnQ false PySem.Challenge.pw_heardby_k19_whole_books_read_back w K mg base 2 ((adK K).m "Book" "meetings") (T_Book_meetings (adK K)) := by
  obtain ⟨fd, F⟩ := S.def_ 26 (d := d_Book_meetings) rfl rfl
  have F : FunD K "meetings" "Book.meetings" (defArgs (inClass (top 51) 16)) (defBody (inClass (top 51) 16)) (defScope (inClass (top 51) 16)) [] [] ((adK K).m "Book" "meetings") fd := F
  exact fnQ_of F sc_Book_meetings (F.bindsN fun _ _ _ _ _ _ us hl => match us, hl with | [_], _ => rfl) (fun ds m Pd h => by first | (obtain ⟨rfl, _⟩ := h; rfl) | (obtain ⟨_, rfl, _⟩ := h; rfl) | (obtain ⟨_, _, rfl, _⟩ := h; rfl) | (obtain ⟨_, _, _, rfl, _⟩ := h; rfl) | (obtain ⟨_, _, _, _, rfl, _⟩ := h; rfl) | (obtain ⟨_, _, _, _, _, rfl, _⟩ := h; rfl) | (obtain ⟨_, _, _, _, _, _, rfl, _⟩ := h; rfl) | (obtain ⟨_, _, _, _, _, _, _, rfl, _⟩ := h; rfl) | (obtain ⟨_, _, _, _, _, _, _, _, rfl, _⟩ := h; rfl)) (b_Book_meetings (P := PySem.Challenge.pw_heardby_k19_whole_books_read_back) (w := w) (mg := mg) (base := base) Z) (fun ds m Pd h => p_Book_meetings h)
theorem f_Book_versions (Z : Tx PySem.Challenge.pw_heardby_k19_whole_books_read_back w K mg (adK K)) (Y : Ty K (adK K)) (S : SaysK w K) : FnQ false PySem.Challenge.pw_heardby_k19_whole_books_read_back w K mg base 2 ((adK K).m "Book" "versions") (T_Book_versions (adK K)) := by
  obtain ⟨fd, F⟩ := S.def_ 27 (d := d_Book_versions) rfl rfl
  have F : FunD K "versions" "Book.versions" (defArgs (inClass (top 51) 15)) (defBody (inClass (top 51) 15)) (defScope (inClass (top 51) 15)) [] [] ((adK K).m "Book" "versions") fd := F
  exact fnQ_of F sc_Book_versions (F.bindsN fun _ _ _ _ _ _ us hl => match us, hl with | [_], _ => rfl) (fun ds m Pd h => by first | (obtain ⟨rfl, _⟩ := h; rfl) | (obtain ⟨_, rfl, _⟩ := h; rfl) | (obtain ⟨_, _, rfl, _⟩ := h; rfl) | (obtain ⟨_, _, _, rfl, _⟩ := h; rfl) | (obtain ⟨_, _, _, _, rfl, _⟩ := h; rfl) | (obtain ⟨_, _, _, _, _, rfl, _⟩ := h; rfl) | (obtain ⟨_, _, _, _, _, _, rfl, _⟩ := h; rfl) | (obtain ⟨_, _, _, _, _, _, _, rfl, _⟩ := h; rfl) | (obtain ⟨_, _, _, _, _, _, _, _, rfl, _⟩ := h; rfl)) (b_Book_versions (P := PySem.Challenge.pw_heardby_k19_whole_books_read_back) (w := w) (mg := mg) (base := base) Z) (fun ds m Pd h => p_Book_versions h)
theorem f_check_claim (Z : Tx PySem.Challenge.pw_heardby_k19_whole_books_read_back w K mg (adK K)) (Y : Ty K (adK K)) (S : SaysK w K) : FnQ false PySem.Challenge.pw_heardby_k19_whole_books_read_back w K mg base 4 ((adK K).g "check_claim") (T_check_claim (adK K)) := by
  obtain ⟨fd, F⟩ := S.def_ 28 (d := d_check_claim) rfl rfl
  have F : FunD K "check_claim" "check_claim" (defArgs (top 46)) (defBody (top 46)) (defScope (top 46)) [] [] ((adK K).g "check_claim") fd := F
  exact fnQ_of F sc_check_claim (F.bindsN fun _ _ _ _ _ _ us hl => match us, hl with | [_, _], _ => rfl) (fun ds m Pd h => by first | (obtain ⟨rfl, _⟩ := h; rfl) | (obtain ⟨_, rfl, _⟩ := h; rfl) | (obtain ⟨_, _, rfl, _⟩ := h; rfl) | (obtain ⟨_, _, _, rfl, _⟩ := h; rfl) | (obtain ⟨_, _, _, _, rfl, _⟩ := h; rfl) | (obtain ⟨_, _, _, _, _, rfl, _⟩ := h; rfl) | (obtain ⟨_, _, _, _, _, _, rfl, _⟩ := h; rfl) | (obtain ⟨_, _, _, _, _, _, _, rfl, _⟩ := h; rfl) | (obtain ⟨_, _, _, _, _, _, _, _, rfl, _⟩ := h; rfl)) (b_check_claim (P := PySem.Challenge.pw_heardby_k19_whole_books_read_back) (w := w) (mg := mg) (base := base) Z (f_check_told Z Y S) (f_Book_meetings Z Y S) (f_check_known Z Y S) (f_Book_people Z Y S) (f_Book_versions Z Y S)) (fun ds m Pd h => p_check_claim h)
theorem f_check_claims (Z : Tx PySem.Challenge.pw_heardby_k19_whole_books_read_back w K mg (adK K)) (Y : Ty K (adK K)) (S : SaysK w K) : FnQ false PySem.Challenge.pw_heardby_k19_whole_books_read_back w K mg base 5 ((adK K).g "check_claims") (T_check_claims (adK K)) := by
  obtain ⟨fd, F⟩ := S.def_ 29 (d := d_check_claims) rfl rfl
  have F : FunD K "check_claims" "check_claims" (defArgs (top 47)) (defBody (top 47)) (defScope (top 47)) [] [] ((adK K).g "check_claims") fd := F
  exact fnQ_of F sc_check_claims (F.bindsN fun _ _ _ _ _ _ us hl => match us, hl with | [_, _], _ => rfl) (fun ds m Pd h => by first | (obtain ⟨rfl, _⟩ := h; rfl) | (obtain ⟨_, rfl, _⟩ := h; rfl) | (obtain ⟨_, _, rfl, _⟩ := h; rfl) | (obtain ⟨_, _, _, rfl, _⟩ := h; rfl) | (obtain ⟨_, _, _, _, rfl, _⟩ := h; rfl) | (obtain ⟨_, _, _, _, _, rfl, _⟩ := h; rfl) | (obtain ⟨_, _, _, _, _, _, rfl, _⟩ := h; rfl) | (obtain ⟨_, _, _, _, _, _, _, rfl, _⟩ := h; rfl) | (obtain ⟨_, _, _, _, _, _, _, _, rfl, _⟩ := h; rfl)) (b_check_claims (P := PySem.Challenge.pw_heardby_k19_whole_books_read_back) (w := w) (mg := mg) (base := base) Z (f_check_claim Z Y S)) (fun ds m Pd h => p_check_claims h)
theorem f_names_refused (Z : Tx PySem.Challenge.pw_heardby_k19_whole_books_read_back w K mg (adK K)) (Y : Ty K (adK K)) (S : SaysK w K) : FnQ false PySem.Challenge.pw_heardby_k19_whole_books_read_back w K mg base 4 ((adK K).g "names_refused") T_names_refused := by
  obtain ⟨fd, F⟩ := S.def_ 30 (d := d_names_refused) rfl rfl
  have F : FunD K "names_refused" "names_refused" (defArgs (top 50)) (defBody (top 50)) (defScope (top 50)) [] [] ((adK K).g "names_refused") fd := F
  exact fnQ_of F sc_names_refused (F.bindsN fun _ _ _ _ _ _ us hl => match us, hl with | [_, _], _ => rfl) (fun ds m Pd h => by first | (obtain ⟨rfl, _⟩ := h; rfl) | (obtain ⟨_, rfl, _⟩ := h; rfl) | (obtain ⟨_, _, rfl, _⟩ := h; rfl) | (obtain ⟨_, _, _, rfl, _⟩ := h; rfl) | (obtain ⟨_, _, _, _, rfl, _⟩ := h; rfl) | (obtain ⟨_, _, _, _, _, rfl, _⟩ := h; rfl) | (obtain ⟨_, _, _, _, _, _, rfl, _⟩ := h; rfl) | (obtain ⟨_, _, _, _, _, _, _, rfl, _⟩ := h; rfl) | (obtain ⟨_, _, _, _, _, _, _, _, rfl, _⟩ := h; rfl)) (b_names_refused (P := PySem.Challenge.pw_heardby_k19_whole_books_read_back) (w := w) (mg := mg) (base := base) Z (f_check_names Z Y S)) (fun ds m Pd h => p_names_refused h)
theorem f_Book_init (Z : Tx PySem.Challenge.pw_heardby_k19_whole_books_read_back w K mg (adK K)) (Y : Ty K (adK K)) (S : SaysK w K) : FnK PySem.Challenge.pw_heardby_k19_whole_books_read_back w K mg base 4 ((adK K).m "Book" "__init__") 3 ["last"] (T_Book_init (adK K)) := by
  obtain ⟨fd, F⟩ := S.def_ 31 (d := d_Book_init) rfl rfl
  have F : FunD K "__init__" "Book.__init__" (defArgs (inClass (top 51) 9)) (defBody (inClass (top 51) 9)) (defScope (inClass (top 51) 9)) [V.ref (dfl0 K (mAd K "Book" "__init__"))] [("last", V.int 10)] ((adK K).m "Book" "__init__") fd := F
  obtain ⟨its, mv, KB⟩ := F.kbinds (ps := ["self", "people", "versions", "last"]) 3 ["last"] [] (fun us its mv ws => us ++ ws) (by simp) (by simp) (fun q hq => nomatch hq) (fun r1 r2 r3 r4 => r1.append r4)
    fun T D doc pm an cdv ct us its mv ws h1 h2 h3 h4 => match us, h1, its, h2, mv, h3, ws, h4 with | [_, _, _], _, [_], _, [], _, [_], _ => ⟨_, rfl, rfl⟩
  exact fnK_of F sc_Book_init KB.to (fun ds m Pd h => by first | (obtain ⟨rfl, _⟩ := h; rfl) | (obtain ⟨_, rfl, _⟩ := h; rfl) | (obtain ⟨_, _, rfl, _⟩ := h; rfl) | (obtain ⟨_, _, _, rfl, _⟩ := h; rfl) | (obtain ⟨_, _, _, _, rfl, _⟩ := h; rfl) | (obtain ⟨_, _, _, _, _, rfl, _⟩ := h; rfl) | (obtain ⟨_, _, _, _, _, _, rfl, _⟩ := h; rfl) | (obtain ⟨_, _, _, _, _, _, _, rfl, _⟩ := h; rfl) | (obtain ⟨_, _, _, _, _, _, _, _, rfl, _⟩ := h; rfl)) (b_Book_init (P := PySem.Challenge.pw_heardby_k19_whole_books_read_back) (w := w) (mg := mg) (base := base) Z (f_check_names Z Y S)) (fun ds m Pd h => p_Book_init h)
theorem f_Book__keep (Z : Tx PySem.Challenge.pw_heardby_k19_whole_books_read_back w K mg (adK K)) (Y : Ty K (adK K)) (S : SaysK w K) : FnQ false PySem.Challenge.pw_heardby_k19_whole_books_read_back w K mg base 2 ((adK K).m "Book" "_keep") (T_Book__keep (adK K)) := by
  obtain ⟨fd, F⟩ := S.def_ 32 (d := d_Book__keep) rfl rfl
  have F : FunD K "_keep" "Book._keep" (defArgs (inClass (top 51) 22)) (defBody (inClass (top 51) 22)) (defScope (inClass (top 51) 22)) [] [] ((adK K).m "Book" "_keep") fd := F
  exact fnQ_of F sc_Book__keep (F.bindsN fun _ _ _ _ _ _ us hl => match us, hl with | [_], _ => rfl) (fun ds m Pd h => by first | (obtain ⟨rfl, _⟩ := h; rfl) | (obtain ⟨_, rfl, _⟩ := h; rfl) | (obtain ⟨_, _, rfl, _⟩ := h; rfl) | (obtain ⟨_, _, _, rfl, _⟩ := h; rfl) | (obtain ⟨_, _, _, _, rfl, _⟩ := h; rfl) | (obtain ⟨_, _, _, _, _, rfl, _⟩ := h; rfl) | (obtain ⟨_, _, _, _, _, _, rfl, _⟩ := h; rfl) | (obtain ⟨_, _, _, _, _, _, _, rfl, _⟩ := h; rfl) | (obtain ⟨_, _, _, _, _, _, _, _, rfl, _⟩ := h; rfl)) (b_Book__keep (P := PySem.Challenge.pw_heardby_k19_whole_books_read_back) (w := w) (mg := mg) (base := base) Z) (fun ds m Pd h => p_Book__keep h)
theorem f_Book_meet (Z : Tx PySem.Challenge.pw_heardby_k19_whole_books_read_back w K mg (adK K)) (Y : Ty K (adK K)) (S : SaysK w K) : FnK PySem.Challenge.pw_heardby_k19_whole_books_read_back w K mg base 3 ((adK K).m "Book" "meet") 4 ["sure"] (T_Book_meet (adK K)) := by
  obtain ⟨fd, F⟩ := S.def_ 33 (d := d_Book_meet) rfl rfl
  have F : FunD K "meet" "Book.meet" (defArgs (inClass (top 51) 23)) (defBody (inClass (top 51) 23)) (defScope (inClass (top 51) 23)) [] [("sure", V.bl true)] ((adK K).m "Book" "meet") fd := F
  obtain ⟨mv, KB⟩ := F.kbinds0 (ps := ["self", "day", "first", "second", "sure"]) 4 ["sure"] [] (fun us mv ws => us ++ ws) (by simp) (fun q hq => nomatch hq) (fun r1 r2 r3 => r1.append r3)
    fun D doc pm an cdv ct us mv ws h1 h2 h3 => match us, h1, mv, h2, ws, h3 with | [_, _, _, _], _, [], _, [_], _ => rfl
  exact fnK_of F sc_Book_meet KB.to (fun ds m Pd h => by first | (obtain ⟨rfl, _⟩ := h; rfl) | (obtain ⟨_, rfl, _⟩ := h; rfl) | (obtain ⟨_, _, rfl, _⟩ := h; rfl) | (obtain ⟨_, _, _, rfl, _⟩ := h; rfl) | (obtain ⟨_, _, _, _, rfl, _⟩ := h; rfl) | (obtain ⟨_, _, _, _, _, rfl, _⟩ := h; rfl) | (obtain ⟨_, _, _, _, _, _, rfl, _⟩ := h; rfl) | (obtain ⟨_, _, _, _, _, _, _, rfl, _⟩ := h; rfl) | (obtain ⟨_, _, _, _, _, _, _, _, rfl, _⟩ := h; rfl)) (b_Book_meet (P := PySem.Challenge.pw_heardby_k19_whole_books_read_back) (w := w) (mg := mg) (base := base) Z (f_check_known Z Y S) (f_Book__keep Z Y S)) (fun ds m Pd h => p_Book_meet h)
theorem f_Book_may_turn (Z : Tx PySem.Challenge.pw_heardby_k19_whole_books_read_back w K mg (adK K)) (Y : Ty K (adK K)) (S : SaysK w K) : FnQ false PySem.Challenge.pw_heardby_k19_whole_books_read_back w K mg base 3 ((adK K).m "Book" "may_turn") (T_Book_may_turn (adK K)) := by
  obtain ⟨fd, F⟩ := S.def_ 34 (d := d_Book_may_turn) rfl rfl
  have F : FunD K "may_turn" "Book.may_turn" (defArgs (inClass (top 51) 24)) (defBody (inClass (top 51) 24)) (defScope (inClass (top 51) 24)) [] [] ((adK K).m "Book" "may_turn") fd := F
  exact fnQ_of F sc_Book_may_turn (F.bindsN fun _ _ _ _ _ _ us hl => match us, hl with | [_, _, _, _], _ => rfl) (fun ds m Pd h => by first | (obtain ⟨rfl, _⟩ := h; rfl) | (obtain ⟨_, rfl, _⟩ := h; rfl) | (obtain ⟨_, _, rfl, _⟩ := h; rfl) | (obtain ⟨_, _, _, rfl, _⟩ := h; rfl) | (obtain ⟨_, _, _, _, rfl, _⟩ := h; rfl) | (obtain ⟨_, _, _, _, _, rfl, _⟩ := h; rfl) | (obtain ⟨_, _, _, _, _, _, rfl, _⟩ := h; rfl) | (obtain ⟨_, _, _, _, _, _, _, rfl, _⟩ := h; rfl) | (obtain ⟨_, _, _, _, _, _, _, _, rfl, _⟩ := h; rfl)) (b_Book_may_turn (P := PySem.Challenge.pw_heardby_k19_whole_books_read_back) (w := w) (mg := mg) (base := base) Z (f_check_known Z Y S) (f_Book__keep Z Y S)) (fun ds m Pd h => p_Book_may_turn h)
theorem f_Book_change (Z : Tx PySem.Challenge.pw_heardby_k19_whole_books_read_back w K mg (adK K)) (Y : Ty K (adK K)) (S : SaysK w K) : FnQ false PySem.Challenge.pw_heardby_k19_whole_books_read_back w K mg base 3 ((adK K).m "Book" "change") (T_Book_change (adK K)) := by
  obtain ⟨fd, F⟩ := S.def_ 35 (d := d_Book_change) rfl rfl
  have F : FunD K "change" "Book.change" (defArgs (inClass (top 51) 27)) (defBody (inClass (top 51) 27)) (defScope (inClass (top 51) 27)) [] [] ((adK K).m "Book" "change") fd := F
  exact fnQ_of F sc_Book_change (F.bindsN fun _ _ _ _ _ _ us hl => match us, hl with | [_, _, _], _ => rfl) (fun ds m Pd h => by first | (obtain ⟨rfl, _⟩ := h; rfl) | (obtain ⟨_, rfl, _⟩ := h; rfl) | (obtain ⟨_, _, rfl, _⟩ := h; rfl) | (obtain ⟨_, _, _, rfl, _⟩ := h; rfl) | (obtain ⟨_, _, _, _, rfl, _⟩ := h; rfl) | (obtain ⟨_, _, _, _, _, rfl, _⟩ := h; rfl) | (obtain ⟨_, _, _, _, _, _, rfl, _⟩ := h; rfl) | (obtain ⟨_, _, _, _, _, _, _, rfl, _⟩ := h; rfl) | (obtain ⟨_, _, _, _, _, _, _, _, rfl, _⟩ := h; rfl)) (b_Book_change (P := PySem.Challenge.pw_heardby_k19_whole_books_read_back) (w := w) (mg := mg) (base := base) Z (f_Book__keep Z Y S)) (fun ds m Pd h => p_Book_change h)
theorem f_Book_fact (Z : Tx PySem.Challenge.pw_heardby_k19_whole_books_read_back w K mg (adK K)) (Y : Ty K (adK K)) (S : SaysK w K) : FnQ false PySem.Challenge.pw_heardby_k19_whole_books_read_back w K mg base 6 ((adK K).m "Book" "fact") (T_Book_fact (adK K)) := by
  obtain ⟨fd, F⟩ := S.def_ 36 (d := d_Book_fact) rfl rfl
  have F : FunD K "fact" "Book.fact" (defArgs (inClass (top 51) 25)) (defBody (inClass (top 51) 25)) (defScope (inClass (top 51) 25)) [] [] ((adK K).m "Book" "fact") fd := F
  exact fnQ_star0 (ps := ["self"]) (pv := "claims") F sc_Book_fact (fun ds m Pd h => by first | (obtain ⟨rfl, _⟩ := h; rfl) | (obtain ⟨_, rfl, _⟩ := h; rfl) | (obtain ⟨_, _, rfl, _⟩ := h; rfl) | (obtain ⟨_, _, _, rfl, _⟩ := h; rfl) | (obtain ⟨_, _, _, _, rfl, _⟩ := h; rfl) | (obtain ⟨_, _, _, _, _, rfl, _⟩ := h; rfl) | (obtain ⟨_, _, _, _, _, _, rfl, _⟩ := h; rfl) | (obtain ⟨_, _, _, _, _, _, _, rfl, _⟩ := h; rfl) | (obtain ⟨_, _, _, _, _, _, _, _, rfl, _⟩ := h; rfl)) (fun kV doc pm an cdv ct => StX.bind_star1 (p1 := "self") (pv := "claims") (B := fun l => bindArgs (PySem.W.fnOf "fact" "Book.fact" (defArgs (inClass (top 51) 25)) (defBody (inClass (top 51) 25)) (defScope (inClass (top 51) 25)) .none kV doc pm an cdv ct) ⟨l, []⟩) (fun _ => rfl) (fun _ _ _ => rfl)) (b_Book_fact (P := PySem.Challenge.pw_heardby_k19_whole_books_read_back) (w := w) (mg := mg) (base := base) Z (f_joined Z Y S) (f_check_claims Z Y S) (f_Clause_len Z Y S) (f_Book__keep Z Y S) (f_Clause_init Z Y S)) (fun ds m Pd h => p_Book_fact h)
theorem f_Book__do (Z : Tx PySem.Challenge.pw_heardby_k19_whole_books_read_back w K mg (adK K)) (Y : Ty K (adK K)) (S : SaysK w K) : FnQ false PySem.Challenge.pw_heardby_k19_whole_books_read_back w K mg base 7 ((adK K).m "Book" "_do") (T_Book__do (adK K)) := by
  obtain ⟨fd, F⟩ := S.def_ 37 (d := d_Book__do) rfl rfl
  have F : FunD K "_do" "Book._do" (defArgs (inClass (top 51) 32)) (defBody (inClass (top 51) 32)) (defScope (inClass (top 51) 32)) [] [] ((adK K).m "Book" "_do") fd := F
  exact fnQ_of F sc_Book__do (F.bindsN fun _ _ _ _ _ _ us hl => match us, hl with | [_, _], _ => rfl) (fun ds m Pd h => by first | (obtain ⟨rfl, _⟩ := h; rfl) | (obtain ⟨_, rfl, _⟩ := h; rfl) | (obtain ⟨_, _, rfl, _⟩ := h; rfl) | (obtain ⟨_, _, _, rfl, _⟩ := h; rfl) | (obtain ⟨_, _, _, _, rfl, _⟩ := h; rfl) | (obtain ⟨_, _, _, _, _, rfl, _⟩ := h; rfl) | (obtain ⟨_, _, _, _, _, _, rfl, _⟩ := h; rfl) | (obtain ⟨_, _, _, _, _, _, _, rfl, _⟩ := h; rfl) | (obtain ⟨_, _, _, _, _, _, _, _, rfl, _⟩ := h; rfl)) (b_Book__do (P := PySem.Challenge.pw_heardby_k19_whole_books_read_back) (w := w) (mg := mg) (base := base) Z (f_Book_meet Z Y S) (f_Book_may_turn Z Y S) (f_Book_change Z Y S) (f_Book_fact Z Y S)) (fun ds m Pd h => p_Book__do h)
theorem f_Book_read (Z : Tx PySem.Challenge.pw_heardby_k19_whole_books_read_back w K mg (adK K)) (Y : Ty K (adK K)) (S : SaysK w K) : FnQ false PySem.Challenge.pw_heardby_k19_whole_books_read_back w K mg base 8 ((adK K).m "Book" "read") (T_Book_read (adK K)) := by
  obtain ⟨fd, F⟩ := S.def_ 38 (d := d_Book_read) rfl rfl
  have F : FunD K "read" "Book.read" (defArgs (inClass (top 51) 11)) (defBody (inClass (top 51) 11)) (defScope (inClass (top 51) 11)) [] [] ((adK K).m "Book" "read") fd := F
  exact fnQ_of F sc_Book_read (F.bindsN fun _ _ _ _ _ _ us hl => match us, hl with | [_, _], _ => rfl) (fun ds m Pd h => by first | (obtain ⟨rfl, _⟩ := h; rfl) | (obtain ⟨_, rfl, _⟩ := h; rfl) | (obtain ⟨_, _, rfl, _⟩ := h; rfl) | (obtain ⟨_, _, _, rfl, _⟩ := h; rfl) | (obtain ⟨_, _, _, _, rfl, _⟩ := h; rfl) | (obtain ⟨_, _, _, _, _, rfl, _⟩ := h; rfl) | (obtain ⟨_, _, _, _, _, _, rfl, _⟩ := h; rfl) | (obtain ⟨_, _, _, _, _, _, _, rfl, _⟩ := h; rfl) | (obtain ⟨_, _, _, _, _, _, _, _, rfl, _⟩ := h; rfl)) (b_Book_read (P := PySem.Challenge.pw_heardby_k19_whole_books_read_back) (w := w) (mg := mg) (base := base) Z (f_read_names Z Y S) (f_read_last Z Y S) (f_names_refused Z Y S) (f_Book_init Z Y S) (f_Book__do Z Y S) (f_read_line Z Y S)) (fun ds m Pd h => p_Book_read h)
theorem f_Book_begin_limit (Z : Tx PySem.Challenge.pw_heardby_k19_whole_books_read_back w K mg (adK K)) (Y : Ty K (adK K)) (S : SaysK w K) : FnQ false PySem.Challenge.pw_heardby_k19_whole_books_read_back w K mg base 2 ((adK K).m "Book" "begin_limit") (T_Book_begin_limit (adK K)) := by
  obtain ⟨fd, F⟩ := S.def_ 39 (d := d_Book_begin_limit) rfl rfl
  have F : FunD K "begin_limit" "Book.begin_limit" (defArgs (inClass (top 51) 12)) (defBody (inClass (top 51) 12)) (defScope (inClass (top 51) 12)) [] [] ((adK K).m "Book" "begin_limit") fd := F
  exact fnQ_of F sc_Book_begin_limit (F.bindsN fun _ _ _ _ _ _ us hl => match us, hl with | [_], _ => rfl) (fun ds m Pd h => by first | (obtain ⟨rfl, _⟩ := h; rfl) | (obtain ⟨_, rfl, _⟩ := h; rfl) | (obtain ⟨_, _, rfl, _⟩ := h; rfl) | (obtain ⟨_, _, _, rfl, _⟩ := h; rfl) | (obtain ⟨_, _, _, _, rfl, _⟩ := h; rfl) | (obtain ⟨_, _, _, _, _, rfl, _⟩ := h; rfl) | (obtain ⟨_, _, _, _, _, _, rfl, _⟩ := h; rfl) | (obtain ⟨_, _, _, _, _, _, _, rfl, _⟩ := h; rfl) | (obtain ⟨_, _, _, _, _, _, _, _, rfl, _⟩ := h; rfl)) (b_Book_begin_limit (P := PySem.Challenge.pw_heardby_k19_whole_books_read_back) (w := w) (mg := mg) (base := base) Z) (fun ds m Pd h => p_Book_begin_limit h)
theorem f_Book_turns (Z : Tx PySem.Challenge.pw_heardby_k19_whole_books_read_back w K mg (adK K)) (Y : Ty K (adK K)) (S : SaysK w K) : FnQ false PySem.Challenge.pw_heardby_k19_whole_books_read_back w K mg base 2 ((adK K).m "Book" "turns") (T_Book_turns (adK K)) := by
  obtain ⟨fd, F⟩ := S.def_ 40 (d := d_Book_turns) rfl rfl
  have F : FunD K "turns" "Book.turns" (defArgs (inClass (top 51) 17)) (defBody (inClass (top 51) 17)) (defScope (inClass (top 51) 17)) [] [] ((adK K).m "Book" "turns") fd := F
  exact fnQ_of F sc_Book_turns (F.bindsN fun _ _ _ _ _ _ us hl => match us, hl with | [_], _ => rfl) (fun ds m Pd h => by first | (obtain ⟨rfl, _⟩ := h; rfl) | (obtain ⟨_, rfl, _⟩ := h; rfl) | (obtain ⟨_, _, rfl, _⟩ := h; rfl) | (obtain ⟨_, _, _, rfl, _⟩ := h; rfl) | (obtain ⟨_, _, _, _, rfl, _⟩ := h; rfl) | (obtain ⟨_, _, _, _, _, rfl, _⟩ := h; rfl) | (obtain ⟨_, _, _, _, _, _, rfl, _⟩ := h; rfl) | (obtain ⟨_, _, _, _, _, _, _, rfl, _⟩ := h; rfl) | (obtain ⟨_, _, _, _, _, _, _, _, rfl, _⟩ := h; rfl)) (b_Book_turns (P := PySem.Challenge.pw_heardby_k19_whole_books_read_back) (w := w) (mg := mg) (base := base) Z) (fun ds m Pd h => p_Book_turns h)
theorem f_Book_facts (Z : Tx PySem.Challenge.pw_heardby_k19_whole_books_read_back w K mg (adK K)) (Y : Ty K (adK K)) (S : SaysK w K) : FnQ false PySem.Challenge.pw_heardby_k19_whole_books_read_back w K mg base 2 ((adK K).m "Book" "facts") (T_Book_facts (adK K)) := by
  obtain ⟨fd, F⟩ := S.def_ 41 (d := d_Book_facts) rfl rfl
  have F : FunD K "facts" "Book.facts" (defArgs (inClass (top 51) 18)) (defBody (inClass (top 51) 18)) (defScope (inClass (top 51) 18)) [] [] ((adK K).m "Book" "facts") fd := F
  exact fnQ_of F sc_Book_facts (F.bindsN fun _ _ _ _ _ _ us hl => match us, hl with | [_], _ => rfl) (fun ds m Pd h => by first | (obtain ⟨rfl, _⟩ := h; rfl) | (obtain ⟨_, rfl, _⟩ := h; rfl) | (obtain ⟨_, _, rfl, _⟩ := h; rfl) | (obtain ⟨_, _, _, rfl, _⟩ := h; rfl) | (obtain ⟨_, _, _, _, rfl, _⟩ := h; rfl) | (obtain ⟨_, _, _, _, _, rfl, _⟩ := h; rfl) | (obtain ⟨_, _, _, _, _, _, rfl, _⟩ := h; rfl) | (obtain ⟨_, _, _, _, _, _, _, rfl, _⟩ := h; rfl) | (obtain ⟨_, _, _, _, _, _, _, _, rfl, _⟩ := h; rfl)) (b_Book_facts (P := PySem.Challenge.pw_heardby_k19_whole_books_read_back) (w := w) (mg := mg) (base := base) Z) (fun ds m Pd h => p_Book_facts h)
theorem f_Book_limits (Z : Tx PySem.Challenge.pw_heardby_k19_whole_books_read_back w K mg (adK K)) (Y : Ty K (adK K)) (S : SaysK w K) : FnQ false PySem.Challenge.pw_heardby_k19_whole_books_read_back w K mg base 2 ((adK K).m "Book" "limits") (T_Book_limits (adK K)) := by
  obtain ⟨fd, F⟩ := S.def_ 42 (d := d_Book_limits) rfl rfl
  have F : FunD K "limits" "Book.limits" (defArgs (inClass (top 51) 19)) (defBody (inClass (top 51) 19)) (defScope (inClass (top 51) 19)) [] [] ((adK K).m "Book" "limits") fd := F
  exact fnQ_of F sc_Book_limits (F.bindsN fun _ _ _ _ _ _ us hl => match us, hl with | [_], _ => rfl) (fun ds m Pd h => by first | (obtain ⟨rfl, _⟩ := h; rfl) | (obtain ⟨_, rfl, _⟩ := h; rfl) | (obtain ⟨_, _, rfl, _⟩ := h; rfl) | (obtain ⟨_, _, _, rfl, _⟩ := h; rfl) | (obtain ⟨_, _, _, _, rfl, _⟩ := h; rfl) | (obtain ⟨_, _, _, _, _, rfl, _⟩ := h; rfl) | (obtain ⟨_, _, _, _, _, _, rfl, _⟩ := h; rfl) | (obtain ⟨_, _, _, _, _, _, _, rfl, _⟩ := h; rfl) | (obtain ⟨_, _, _, _, _, _, _, _, rfl, _⟩ := h; rfl)) (b_Book_limits (P := PySem.Challenge.pw_heardby_k19_whole_books_read_back) (w := w) (mg := mg) (base := base) Z) (fun ds m Pd h => p_Book_limits h)
theorem f_Book_len (Z : Tx PySem.Challenge.pw_heardby_k19_whole_books_read_back w K mg (adK K)) (Y : Ty K (adK K)) (S : SaysK w K) : FnQ false PySem.Challenge.pw_heardby_k19_whole_books_read_back w K mg base 2 ((adK K).m "Book" "__len__") (T_Book_len (adK K)) := by
  obtain ⟨fd, F⟩ := S.def_ 43 (d := d_Book_len) rfl rfl
  have F : FunD K "__len__" "Book.__len__" (defArgs (inClass (top 51) 20)) (defBody (inClass (top 51) 20)) (defScope (inClass (top 51) 20)) [] [] ((adK K).m "Book" "__len__") fd := F
  exact fnQ_of F sc_Book_len (F.bindsN fun _ _ _ _ _ _ us hl => match us, hl with | [_], _ => rfl) (fun ds m Pd h => by first | (obtain ⟨rfl, _⟩ := h; rfl) | (obtain ⟨_, rfl, _⟩ := h; rfl) | (obtain ⟨_, _, rfl, _⟩ := h; rfl) | (obtain ⟨_, _, _, rfl, _⟩ := h; rfl) | (obtain ⟨_, _, _, _, rfl, _⟩ := h; rfl) | (obtain ⟨_, _, _, _, _, rfl, _⟩ := h; rfl) | (obtain ⟨_, _, _, _, _, _, rfl, _⟩ := h; rfl) | (obtain ⟨_, _, _, _, _, _, _, rfl, _⟩ := h; rfl) | (obtain ⟨_, _, _, _, _, _, _, _, rfl, _⟩ := h; rfl)) (b_Book_len (P := PySem.Challenge.pw_heardby_k19_whole_books_read_back) (w := w) (mg := mg) (base := base) Z) (fun ds m Pd h => p_Book_len h)
theorem f_Book_contains (Z : Tx PySem.Challenge.pw_heardby_k19_whole_books_read_back w K mg (adK K)) (Y : Ty K (adK K)) (S : SaysK w K) : FnQ false PySem.Challenge.pw_heardby_k19_whole_books_read_back w K mg base 3 ((adK K).m "Book" "__contains__") (T_Book_contains (adK K)) := by
  obtain ⟨fd, F⟩ := S.def_ 44 (d := d_Book_contains) rfl rfl
  have F : FunD K "__contains__" "Book.__contains__" (defArgs (inClass (top 51) 21)) (defBody (inClass (top 51) 21)) (defScope (inClass (top 51) 21)) [] [] ((adK K).m "Book" "__contains__") fd := F
  exact fnQ_of F sc_Book_contains (F.bindsN fun _ _ _ _ _ _ us hl => match us, hl with | [_, _], _ => rfl) (fun ds m Pd h => by first | (obtain ⟨rfl, _⟩ := h; rfl) | (obtain ⟨_, rfl, _⟩ := h; rfl) | (obtain ⟨_, _, rfl, _⟩ := h; rfl) | (obtain ⟨_, _, _, rfl, _⟩ := h; rfl) | (obtain ⟨_, _, _, _, rfl, _⟩ := h; rfl) | (obtain ⟨_, _, _, _, _, rfl, _⟩ := h; rfl) | (obtain ⟨_, _, _, _, _, _, rfl, _⟩ := h; rfl) | (obtain ⟨_, _, _, _, _, _, _, rfl, _⟩ := h; rfl) | (obtain ⟨_, _, _, _, _, _, _, _, rfl, _⟩ := h; rfl)) (b_Book_contains (P := PySem.Challenge.pw_heardby_k19_whole_books_read_back) (w := w) (mg := mg) (base := base) Z (f_Clause_claims Z Y S) (f_Claim_eq Z Y S)) (fun ds m Pd h => p_Book_contains h)
theorem f_Book_text (Z : Tx PySem.Challenge.pw_heardby_k19_whole_books_read_back w K mg (adK K)) (Y : Ty K (adK K)) (S : SaysK w K) : FnQ false PySem.Challenge.pw_heardby_k19_whole_books_read_back w K mg base 9 ((adK K).m "Book" "text") (T_Book_text (adK K)) := by
  obtain ⟨fd, F⟩ := S.def_ 45 (d := d_Book_text) rfl rfl
  have F : FunD K "text" "Book.text" (defArgs (inClass (top 51) 31)) (defBody (inClass (top 51) 31)) (defScope (inClass (top 51) 31)) [] [] ((adK K).m "Book" "text") fd := F
  exact fnQ_of F sc_Book_text (F.bindsN fun _ _ _ _ _ _ us hl => match us, hl with | [_], _ => rfl) (fun ds m Pd h => by first | (obtain ⟨rfl, _⟩ := h; rfl) | (obtain ⟨_, rfl, _⟩ := h; rfl) | (obtain ⟨_, _, rfl, _⟩ := h; rfl) | (obtain ⟨_, _, _, rfl, _⟩ := h; rfl) | (obtain ⟨_, _, _, _, rfl, _⟩ := h; rfl) | (obtain ⟨_, _, _, _, _, rfl, _⟩ := h; rfl) | (obtain ⟨_, _, _, _, _, _, rfl, _⟩ := h; rfl) | (obtain ⟨_, _, _, _, _, _, _, rfl, _⟩ := h; rfl) | (obtain ⟨_, _, _, _, _, _, _, _, rfl, _⟩ := h; rfl)) (b_Book_text (P := PySem.Challenge.pw_heardby_k19_whole_books_read_back) (w := w) (mg := mg) (base := base) Z (f_Clause_str Z Y S) (f_limit_line Z Y S)) (fun ds m Pd h => p_Book_text h)
theorem f__law_bool (Z : Tx PySem.Challenge.pw_heardby_k19_whole_books_read_back w K mg (adK K)) (Y : Ty K (adK K)) (S : SaysK w K) : FnQ false PySem.Challenge.pw_heardby_k19_whole_books_read_back w K mg base 2 ((adK K).g "_law_bool") T__law_bool := by
  obtain ⟨fd, F⟩ := S.def_ 46 (d := d__law_bool) rfl rfl
  have F : FunD K "_law_bool" "_law_bool" (defArgs (top 53)) (defBody (top 53)) (defScope (top 53)) [] [] ((adK K).g "_law_bool") fd := F
  exact fnQ_of F sc__law_bool (F.bindsN fun _ _ _ _ _ _ us hl => match us, hl with | [_, _], _ => rfl) (fun ds m Pd h => by first | (obtain ⟨rfl, _⟩ := h; rfl) | (obtain ⟨_, rfl, _⟩ := h; rfl) | (obtain ⟨_, _, rfl, _⟩ := h; rfl) | (obtain ⟨_, _, _, rfl, _⟩ := h; rfl) | (obtain ⟨_, _, _, _, rfl, _⟩ := h; rfl) | (obtain ⟨_, _, _, _, _, rfl, _⟩ := h; rfl) | (obtain ⟨_, _, _, _, _, _, rfl, _⟩ := h; rfl) | (obtain ⟨_, _, _, _, _, _, _, rfl, _⟩ := h; rfl) | (obtain ⟨_, _, _, _, _, _, _, _, rfl, _⟩ := h; rfl)) (b__law_bool (P := PySem.Challenge.pw_heardby_k19_whole_books_read_back) (w := w) (mg := mg) (base := base) Z) (fun ds m Pd h => p__law_bool Y h)
theorem f__law_box (Z : Tx PySem.Challenge.pw_heardby_k19_whole_books_read_back w K mg (adK K)) (Y : Ty K (adK K)) (S : SaysK w K) : FnQ false PySem.Challenge.pw_heardby_k19_whole_books_read_back w K mg base 2 ((adK K).g "_law_box") T__law_box := by
  obtain ⟨fd, F⟩ := S.def_ 47 (d := d__law_box) rfl rfl
  have F : FunD K "_law_box" "_law_box" (defArgs (top 54)) (defBody (top 54)) (defScope (top 54)) [] [] ((adK K).g "_law_box") fd := F
  exact fnQ_of F sc__law_box (F.bindsN fun _ _ _ _ _ _ us hl => match us, hl with | [_], _ => rfl) (fun ds m Pd h => by first | (obtain ⟨rfl, _⟩ := h; rfl) | (obtain ⟨_, rfl, _⟩ := h; rfl) | (obtain ⟨_, _, rfl, _⟩ := h; rfl) | (obtain ⟨_, _, _, rfl, _⟩ := h; rfl) | (obtain ⟨_, _, _, _, rfl, _⟩ := h; rfl) | (obtain ⟨_, _, _, _, _, rfl, _⟩ := h; rfl) | (obtain ⟨_, _, _, _, _, _, rfl, _⟩ := h; rfl) | (obtain ⟨_, _, _, _, _, _, _, rfl, _⟩ := h; rfl) | (obtain ⟨_, _, _, _, _, _, _, _, rfl, _⟩ := h; rfl)) (b__law_box (P := PySem.Challenge.pw_heardby_k19_whole_books_read_back) (w := w) (mg := mg) (base := base) Z) (fun ds m Pd h => p__law_box h)
theorem f__law_take (Z : Tx PySem.Challenge.pw_heardby_k19_whole_books_read_back w K mg (adK K)) (Y : Ty K (adK K)) (S : SaysK w K) : FnQ false PySem.Challenge.pw_heardby_k19_whole_books_read_back w K mg base 2 ((adK K).g "_law_take") T__law_take := by
  obtain ⟨fd, F⟩ := S.def_ 48 (d := d__law_take) rfl rfl
  have F : FunD K "_law_take" "_law_take" (defArgs (top 55)) (defBody (top 55)) (defScope (top 55)) [] [] ((adK K).g "_law_take") fd := F
  exact fnQ_of F sc__law_take (F.bindsN fun _ _ _ _ _ _ us hl => match us, hl with | [_, _], _ => rfl) (fun ds m Pd h => by first | (obtain ⟨rfl, _⟩ := h; rfl) | (obtain ⟨_, rfl, _⟩ := h; rfl) | (obtain ⟨_, _, rfl, _⟩ := h; rfl) | (obtain ⟨_, _, _, rfl, _⟩ := h; rfl) | (obtain ⟨_, _, _, _, rfl, _⟩ := h; rfl) | (obtain ⟨_, _, _, _, _, rfl, _⟩ := h; rfl) | (obtain ⟨_, _, _, _, _, _, rfl, _⟩ := h; rfl) | (obtain ⟨_, _, _, _, _, _, _, rfl, _⟩ := h; rfl) | (obtain ⟨_, _, _, _, _, _, _, _, rfl, _⟩ := h; rfl)) (b__law_take (P := PySem.Challenge.pw_heardby_k19_whole_books_read_back) (w := w) (mg := mg) (base := base) Z) (fun ds m Pd h => p__law_take h)
theorem f__law_names (Z : Tx PySem.Challenge.pw_heardby_k19_whole_books_read_back w K mg (adK K)) (Y : Ty K (adK K)) (S : SaysK w K) : FnQ false PySem.Challenge.pw_heardby_k19_whole_books_read_back w K mg base 3 ((adK K).g "_law_names") T__law_names := by
  obtain ⟨fd, F⟩ := S.def_ 49 (d := d__law_names) rfl rfl
  have F : FunD K "_law_names" "_law_names" (defArgs (top 56)) (defBody (top 56)) (defScope (top 56)) [] [] ((adK K).g "_law_names") fd := F
  exact fnQ_of F sc__law_names (F.bindsN fun _ _ _ _ _ _ us hl => match us, hl with | [_, _], _ => rfl) (fun ds m Pd h => by first | (obtain ⟨rfl, _⟩ := h; rfl) | (obtain ⟨_, rfl, _⟩ := h; rfl) | (obtain ⟨_, _, rfl, _⟩ := h; rfl) | (obtain ⟨_, _, _, rfl, _⟩ := h; rfl) | (obtain ⟨_, _, _, _, rfl, _⟩ := h; rfl) | (obtain ⟨_, _, _, _, _, rfl, _⟩ := h; rfl) | (obtain ⟨_, _, _, _, _, _, rfl, _⟩ := h; rfl) | (obtain ⟨_, _, _, _, _, _, _, rfl, _⟩ := h; rfl) | (obtain ⟨_, _, _, _, _, _, _, _, rfl, _⟩ := h; rfl)) (b__law_names (P := PySem.Challenge.pw_heardby_k19_whole_books_read_back) (w := w) (mg := mg) (base := base) Z (f__law_take Z Y S)) (fun ds m Pd h => p__law_names h)
theorem f__law_unsure (Z : Tx PySem.Challenge.pw_heardby_k19_whole_books_read_back w K mg (adK K)) (Y : Ty K (adK K)) (S : SaysK w K) : FnQ false PySem.Challenge.pw_heardby_k19_whole_books_read_back w K mg base 2 ((adK K).g "_law_unsure") T__law_unsure := by
  obtain ⟨fd, F⟩ := S.def_ 50 (d := d__law_unsure) rfl rfl
  have F : FunD K "_law_unsure" "_law_unsure" (defArgs (top 57)) (defBody (top 57)) (defScope (top 57)) [] [] ((adK K).g "_law_unsure") fd := F
  exact fnQ_of F sc__law_unsure (F.bindsN fun _ _ _ _ _ _ us hl => match us, hl with | [_], _ => rfl) (fun ds m Pd h => by first | (obtain ⟨rfl, _⟩ := h; rfl) | (obtain ⟨_, rfl, _⟩ := h; rfl) | (obtain ⟨_, _, rfl, _⟩ := h; rfl) | (obtain ⟨_, _, _, rfl, _⟩ := h; rfl) | (obtain ⟨_, _, _, _, rfl, _⟩ := h; rfl) | (obtain ⟨_, _, _, _, _, rfl, _⟩ := h; rfl) | (obtain ⟨_, _, _, _, _, _, rfl, _⟩ := h; rfl) | (obtain ⟨_, _, _, _, _, _, _, rfl, _⟩ := h; rfl) | (obtain ⟨_, _, _, _, _, _, _, _, rfl, _⟩ := h; rfl)) (b__law_unsure (P := PySem.Challenge.pw_heardby_k19_whole_books_read_back) (w := w) (mg := mg) (base := base) Z) (fun ds m Pd h => p__law_unsure h)
theorem f__law_pair_met (Z : Tx PySem.Challenge.pw_heardby_k19_whole_books_read_back w K mg (adK K)) (Y : Ty K (adK K)) (S : SaysK w K) : FnQ false PySem.Challenge.pw_heardby_k19_whole_books_read_back w K mg base 2 ((adK K).g "_law_pair_met") T__law_pair_met := by
  obtain ⟨fd, F⟩ := S.def_ 51 (d := d__law_pair_met) rfl rfl
  have F : FunD K "_law_pair_met" "_law_pair_met" (defArgs (top 58)) (defBody (top 58)) (defScope (top 58)) [] [] ((adK K).g "_law_pair_met") fd := F
  exact fnQ_of F sc__law_pair_met (F.bindsN fun _ _ _ _ _ _ us hl => match us, hl with | [_, _, _, _], _ => rfl) (fun ds m Pd h => by first | (obtain ⟨rfl, _⟩ := h; rfl) | (obtain ⟨_, rfl, _⟩ := h; rfl) | (obtain ⟨_, _, rfl, _⟩ := h; rfl) | (obtain ⟨_, _, _, rfl, _⟩ := h; rfl) | (obtain ⟨_, _, _, _, rfl, _⟩ := h; rfl) | (obtain ⟨_, _, _, _, _, rfl, _⟩ := h; rfl) | (obtain ⟨_, _, _, _, _, _, rfl, _⟩ := h; rfl) | (obtain ⟨_, _, _, _, _, _, _, rfl, _⟩ := h; rfl) | (obtain ⟨_, _, _, _, _, _, _, _, rfl, _⟩ := h; rfl)) (b__law_pair_met (P := PySem.Challenge.pw_heardby_k19_whole_books_read_back) (w := w) (mg := mg) (base := base) Z) (fun ds m Pd h => p__law_pair_met h)
theorem f__law_meetings (Z : Tx PySem.Challenge.pw_heardby_k19_whole_books_read_back w K mg (adK K)) (Y : Ty K (adK K)) (S : SaysK w K) : FnQ false PySem.Challenge.pw_heardby_k19_whole_books_read_back w K mg base 3 ((adK K).g "_law_meetings") T__law_meetings := by
  obtain ⟨fd, F⟩ := S.def_ 52 (d := d__law_meetings) rfl rfl
  have F : FunD K "_law_meetings" "_law_meetings" (defArgs (top 59)) (defBody (top 59)) (defScope (top 59)) [] [] ((adK K).g "_law_meetings") fd := F
  exact fnQ_of F sc__law_meetings (F.bindsN fun _ _ _ _ _ _ us hl => match us, hl with | [_, _, _, _], _ => rfl) (fun ds m Pd h => by first | (obtain ⟨rfl, _⟩ := h; rfl) | (obtain ⟨_, rfl, _⟩ := h; rfl) | (obtain ⟨_, _, rfl, _⟩ := h; rfl) | (obtain ⟨_, _, _, rfl, _⟩ := h; rfl) | (obtain ⟨_, _, _, _, rfl, _⟩ := h; rfl) | (obtain ⟨_, _, _, _, _, rfl, _⟩ := h; rfl) | (obtain ⟨_, _, _, _, _, _, rfl, _⟩ := h; rfl) | (obtain ⟨_, _, _, _, _, _, _, rfl, _⟩ := h; rfl) | (obtain ⟨_, _, _, _, _, _, _, _, rfl, _⟩ := h; rfl)) (b__law_meetings (P := PySem.Challenge.pw_heardby_k19_whole_books_read_back) (w := w) (mg := mg) (base := base) Z (f__law_take Z Y S) (f__law_pair_met Z Y S)) (fun ds m Pd h => p__law_meetings h)
theorem f__law_changes (Z : Tx PySem.Challenge.pw_heardby_k19_whole_books_read_back w K mg (adK K)) (Y : Ty K (adK K)) (S : SaysK w K) : FnQ false PySem.Challenge.pw_heardby_k19_whole_books_read_back w K mg base 3 ((adK K).g "_law_changes") T__law_changes := by
  obtain ⟨fd, F⟩ := S.def_ 53 (d := d__law_changes) rfl rfl
  have F : FunD K "_law_changes" "_law_changes" (defArgs (top 60)) (defBody (top 60)) (defScope (top 60)) [] [] ((adK K).g "_law_changes") fd := F
  exact fnQ_of F sc__law_changes (F.bindsN fun _ _ _ _ _ _ us hl => match us, hl with | [_, _, _, _], _ => rfl) (fun ds m Pd h => by first | (obtain ⟨rfl, _⟩ := h; rfl) | (obtain ⟨_, rfl, _⟩ := h; rfl) | (obtain ⟨_, _, rfl, _⟩ := h; rfl) | (obtain ⟨_, _, _, rfl, _⟩ := h; rfl) | (obtain ⟨_, _, _, _, rfl, _⟩ := h; rfl) | (obtain ⟨_, _, _, _, _, rfl, _⟩ := h; rfl) | (obtain ⟨_, _, _, _, _, _, rfl, _⟩ := h; rfl) | (obtain ⟨_, _, _, _, _, _, _, rfl, _⟩ := h; rfl) | (obtain ⟨_, _, _, _, _, _, _, _, rfl, _⟩ := h; rfl)) (b__law_changes (P := PySem.Challenge.pw_heardby_k19_whole_books_read_back) (w := w) (mg := mg) (base := base) Z (f__law_take Z Y S)) (fun ds m Pd h => p__law_changes h)
theorem f__law_claim_row (Z : Tx PySem.Challenge.pw_heardby_k19_whole_books_read_back w K mg (adK K)) (Y : Ty K (adK K)) (S : SaysK w K) : FnQ false PySem.Challenge.pw_heardby_k19_whole_books_read_back w K mg base 3 ((adK K).g "_law_claim_row") T__law_claim_row := by
  obtain ⟨fd, F⟩ := S.def_ 54 (d := d__law_claim_row) rfl rfl
  have F : FunD K "_law_claim_row" "_law_claim_row" (defArgs (top 61)) (defBody (top 61)) (defScope (top 61)) [] [] ((adK K).g "_law_claim_row") fd := F
  exact fnQ_of F sc__law_claim_row (F.bindsN fun _ _ _ _ _ _ us hl => match us, hl with | [_, _], _ => rfl) (fun ds m Pd h => by first | (obtain ⟨rfl, _⟩ := h; rfl) | (obtain ⟨_, rfl, _⟩ := h; rfl) | (obtain ⟨_, _, rfl, _⟩ := h; rfl) | (obtain ⟨_, _, _, rfl, _⟩ := h; rfl) | (obtain ⟨_, _, _, _, rfl, _⟩ := h; rfl) | (obtain ⟨_, _, _, _, _, rfl, _⟩ := h; rfl) | (obtain ⟨_, _, _, _, _, _, rfl, _⟩ := h; rfl) | (obtain ⟨_, _, _, _, _, _, _, rfl, _⟩ := h; rfl) | (obtain ⟨_, _, _, _, _, _, _, _, rfl, _⟩ := h; rfl)) (b__law_claim_row (P := PySem.Challenge.pw_heardby_k19_whole_books_read_back) (w := w) (mg := mg) (base := base) Z (f__law_take Z Y S) (f__law_unsure Z Y S)) (fun ds m Pd h => p__law_claim_row h)
theorem f__law_facts (Z : Tx PySem.Challenge.pw_heardby_k19_whole_books_read_back w K mg (adK K)) (Y : Ty K (adK K)) (S : SaysK w K) : FnQ false PySem.Challenge.pw_heardby_k19_whole_books_read_back w K mg base 4 ((adK K).g "_law_facts") T__law_facts := by
  obtain ⟨fd, F⟩ := S.def_ 55 (d := d__law_facts) rfl rfl
  have F : FunD K "_law_facts" "_law_facts" (defArgs (top 62)) (defBody (top 62)) (defScope (top 62)) [] [] ((adK K).g "_law_facts") fd := F
  exact fnQ_of F sc__law_facts (F.bindsN fun _ _ _ _ _ _ us hl => match us, hl with | [_, _, _, _], _ => rfl) (fun ds m Pd h => by first | (obtain ⟨rfl, _⟩ := h; rfl) | (obtain ⟨_, rfl, _⟩ := h; rfl) | (obtain ⟨_, _, rfl, _⟩ := h; rfl) | (obtain ⟨_, _, _, rfl, _⟩ := h; rfl) | (obtain ⟨_, _, _, _, rfl, _⟩ := h; rfl) | (obtain ⟨_, _, _, _, _, rfl, _⟩ := h; rfl) | (obtain ⟨_, _, _, _, _, _, rfl, _⟩ := h; rfl) | (obtain ⟨_, _, _, _, _, _, _, rfl, _⟩ := h; rfl) | (obtain ⟨_, _, _, _, _, _, _, _, rfl, _⟩ := h; rfl)) (b__law_facts (P := PySem.Challenge.pw_heardby_k19_whole_books_read_back) (w := w) (mg := mg) (base := base) Z (f__law_claim_row Z Y S) (f__law_take Z Y S)) (fun ds m Pd h => p__law_facts h)
theorem f__law_made (Z : Tx PySem.Challenge.pw_heardby_k19_whole_books_read_back w K mg (adK K)) (Y : Ty K (adK K)) (S : SaysK w K) : FnQ false PySem.Challenge.pw_heardby_k19_whole_books_read_back w K mg base 5 ((adK K).g "_law_made") T__law_made := by
  obtain ⟨fd, F⟩ := S.def_ 56 (d := d__law_made) rfl rfl
  have F : FunD K "_law_made" "_law_made" (defArgs (top 63)) (defBody (top 63)) (defScope (top 63)) [] [] ((adK K).g "_law_made") fd := F
  exact fnQ_of F sc__law_made (F.bindsN fun _ _ _ _ _ _ us hl => match us, hl with | [_, _, _], _ => rfl) (fun ds m Pd h => by first | (obtain ⟨rfl, _⟩ := h; rfl) | (obtain ⟨_, rfl, _⟩ := h; rfl) | (obtain ⟨_, _, rfl, _⟩ := h; rfl) | (obtain ⟨_, _, _, rfl, _⟩ := h; rfl) | (obtain ⟨_, _, _, _, rfl, _⟩ := h; rfl) | (obtain ⟨_, _, _, _, _, rfl, _⟩ := h; rfl) | (obtain ⟨_, _, _, _, _, _, rfl, _⟩ := h; rfl) | (obtain ⟨_, _, _, _, _, _, _, rfl, _⟩ := h; rfl) | (obtain ⟨_, _, _, _, _, _, _, _, rfl, _⟩ := h; rfl)) (b__law_made (P := PySem.Challenge.pw_heardby_k19_whole_books_read_back) (w := w) (mg := mg) (base := base) Z (f__law_names Z Y S) (f__law_take Z Y S) (f__law_meetings Z Y S) (f__law_changes Z Y S) (f__law_facts Z Y S)) (fun ds m Pd h => p__law_made h)
theorem f__law_world (Z : Tx PySem.Challenge.pw_heardby_k19_whole_books_read_back w K mg (adK K)) (Y : Ty K (adK K)) (S : SaysK w K) : FnQ false PySem.Challenge.pw_heardby_k19_whole_books_read_back w K mg base 6 ((adK K).g "_law_world") T__law_world := by
  obtain ⟨fd, F⟩ := S.def_ 57 (d := d__law_world) rfl rfl
  have F : FunD K "_law_world" "_law_world" (defArgs (top 64)) (defBody (top 64)) (defScope (top 64)) [] [] ((adK K).g "_law_world") fd := F
  exact fnQ_of F sc__law_world (F.bindsN fun _ _ _ _ _ _ us hl => match us, hl with | [_, _, _, _, _, _], _ => rfl) (fun ds m Pd h => by first | (obtain ⟨rfl, _⟩ := h; rfl) | (obtain ⟨_, rfl, _⟩ := h; rfl) | (obtain ⟨_, _, rfl, _⟩ := h; rfl) | (obtain ⟨_, _, _, rfl, _⟩ := h; rfl) | (obtain ⟨_, _, _, _, rfl, _⟩ := h; rfl) | (obtain ⟨_, _, _, _, _, rfl, _⟩ := h; rfl) | (obtain ⟨_, _, _, _, _, _, rfl, _⟩ := h; rfl) | (obtain ⟨_, _, _, _, _, _, _, rfl, _⟩ := h; rfl) | (obtain ⟨_, _, _, _, _, _, _, _, rfl, _⟩ := h; rfl)) (b__law_world (P := PySem.Challenge.pw_heardby_k19_whole_books_read_back) (w := w) (mg := mg) (base := base) Z (f__law_made Z Y S)) (fun ds m Pd h => p__law_world h)
theorem f__law_text (Z : Tx PySem.Challenge.pw_heardby_k19_whole_books_read_back w K mg (adK K)) (Y : Ty K (adK K)) (S : SaysK w K) : FnQ false PySem.Challenge.pw_heardby_k19_whole_books_read_back w K mg base 2 ((adK K).g "_law_text") T__law_text := by
  obtain ⟨fd, F⟩ := S.def_ 58 (d := d__law_text) rfl rfl
  have F : FunD K "_law_text" "_law_text" (defArgs (top 65)) (defBody (top 65)) (defScope (top 65)) [] [] ((adK K).g "_law_text") fd := F
  exact fnQ_of F sc__law_text (F.bindsN fun _ _ _ _ _ _ us hl => match us, hl with | [_], _ => rfl) (fun ds m Pd h => by first | (obtain ⟨rfl, _⟩ := h; rfl) | (obtain ⟨_, rfl, _⟩ := h; rfl) | (obtain ⟨_, _, rfl, _⟩ := h; rfl) | (obtain ⟨_, _, _, rfl, _⟩ := h; rfl) | (obtain ⟨_, _, _, _, rfl, _⟩ := h; rfl) | (obtain ⟨_, _, _, _, _, rfl, _⟩ := h; rfl) | (obtain ⟨_, _, _, _, _, _, rfl, _⟩ := h; rfl) | (obtain ⟨_, _, _, _, _, _, _, rfl, _⟩ := h; rfl) | (obtain ⟨_, _, _, _, _, _, _, _, rfl, _⟩ := h; rfl)) (b__law_text (P := PySem.Challenge.pw_heardby_k19_whole_books_read_back) (w := w) (mg := mg) (base := base) Z) (fun ds m Pd h => p__law_text h)
theorem f__law_same (Z : Tx PySem.Challenge.pw_heardby_k19_whole_books_read_back w K mg (adK K)) (Y : Ty K (adK K)) (S : SaysK w K) : FnQ true PySem.Challenge.pw_heardby_k19_whole_books_read_back w K mg base 3 ((adK K).g "_law_same") (T__law_same (adK K)) := by
  obtain ⟨fd, F⟩ := S.def_ 59 (d := d__law_same) rfl rfl
  have F : FunD K "_law_same" "_law_same" (defArgs (top 66)) (defBody (top 66)) (defScope (top 66)) [] [] ((adK K).g "_law_same") fd := F
  exact fnQ_of F sc__law_same (F.bindsN fun _ _ _ _ _ _ us hl => match us, hl with | [_, _], _ => rfl) (fun ds m Pd h => by first | (obtain ⟨rfl, _⟩ := h; rfl) | (obtain ⟨_, rfl, _⟩ := h; rfl) | (obtain ⟨_, _, rfl, _⟩ := h; rfl) | (obtain ⟨_, _, _, rfl, _⟩ := h; rfl) | (obtain ⟨_, _, _, _, rfl, _⟩ := h; rfl) | (obtain ⟨_, _, _, _, _, rfl, _⟩ := h; rfl) | (obtain ⟨_, _, _, _, _, _, rfl, _⟩ := h; rfl) | (obtain ⟨_, _, _, _, _, _, _, rfl, _⟩ := h; rfl) | (obtain ⟨_, _, _, _, _, _, _, _, rfl, _⟩ := h; rfl)) (b__law_same (P := PySem.Challenge.pw_heardby_k19_whole_books_read_back) (w := w) (mg := mg) (base := base) Z (f__law_bool Z Y S)) (fun ds m Pd h => p__law_same Y h)
theorem f__law_limits (Z : Tx PySem.Challenge.pw_heardby_k19_whole_books_read_back w K mg (adK K)) (Y : Ty K (adK K)) (S : SaysK w K) : FnQ false PySem.Challenge.pw_heardby_k19_whole_books_read_back w K mg base 3 ((adK K).g "_law_limits") T__law_limits := by
  obtain ⟨fd, F⟩ := S.def_ 60 (d := d__law_limits) rfl rfl
  have F : FunD K "_law_limits" "_law_limits" (defArgs (top 67)) (defBody (top 67)) (defScope (top 67)) [] [] ((adK K).g "_law_limits") fd := F
  exact fnQ_of F sc__law_limits (F.bindsN fun _ _ _ _ _ _ us hl => match us, hl with | [_, _], _ => rfl) (fun ds m Pd h => by first | (obtain ⟨rfl, _⟩ := h; rfl) | (obtain ⟨_, rfl, _⟩ := h; rfl) | (obtain ⟨_, _, rfl, _⟩ := h; rfl) | (obtain ⟨_, _, _, rfl, _⟩ := h; rfl) | (obtain ⟨_, _, _, _, rfl, _⟩ := h; rfl) | (obtain ⟨_, _, _, _, _, rfl, _⟩ := h; rfl) | (obtain ⟨_, _, _, _, _, _, rfl, _⟩ := h; rfl) | (obtain ⟨_, _, _, _, _, _, _, rfl, _⟩ := h; rfl) | (obtain ⟨_, _, _, _, _, _, _, _, rfl, _⟩ := h; rfl)) (b__law_limits (P := PySem.Challenge.pw_heardby_k19_whole_books_read_back) (w := w) (mg := mg) (base := base) Z (f__law_take Z Y S)) (fun ds m Pd h => p__law_limits h)
theorem f_Knew_init (Z : Tx PySem.Challenge.pw_heardby_k19_whole_books_read_back w K mg (adK K)) (Y : Ty K (adK K)) (S : SaysK w K) : FnQ false PySem.Challenge.pw_heardby_k19_whole_books_read_back w K mg base 3 ((adK K).m "Knew" "__init__") (T_sub ((adK K).g "Knew") 3 "knew") := by
  obtain ⟨oc, od, osl, cl, dV, kV, doc, pm, an, cdv, ct, hcl, lk, hcd, hD, _, _⟩ := Dn.fnx (d := d_Knew_init) (obsL_at S.obs (i := 61) rfl) (okL_at S.ok (i := 61) rfl)
  obtain ⟨cc, cda, e1, e2, SK⟩ := bSup_ok (q := "Knew.__init__") lk (sup_Knew S.ck)
  have e1 : cl = [(("__class__" : Str), cc)] := e1
  have e2 : cdv = .ref cda := e2
  subst e1 e2
  have hb : ∀ (st : Shared) (us : List Value), us.length = (["self", "person", "day", "version"] : List Str).length → K.In st.heap → BindsTo st (PySem.W.fnX "__init__" "Knew.__init__" (defArgs (inClass (top 26) 0)) (defBody (inClass (top 26) 0)) (defScope (inClass (top 26) 0)) [("__class__", cc)] dV kV doc pm an (.ref cda) ct) ⟨us, []⟩ ((["self", "person", "day", "version"] : List Str).zip us) := by
    intro st us hl KX
    rcases hD with ⟨e, _⟩ | ⟨_, TT, oo, its, mm, rfl, lT, oT, rT⟩
    · cases e
    · have l1 : its.length = 1 := rT.length.symm
      have z : ∃ k, bindArgs (PySem.W.fnX "__init__" "Knew.__init__" (defArgs (inClass (top 26) 0)) (defBody (inClass (top 26) 0)) (defScope (inClass (top 26) 0)) [("__class__", cc)] (.ref TT) kV doc pm an (.ref cda) ct) ⟨us, []⟩ = seqItems? (.ref TT) >>= k ∧ k (some its.toArray) = pure ((["self", "person", "day", "version"] : List Str).zip us) := match us, hl, its, l1 with | [_, _, _, _], _, [_], _ => ⟨_, rfl, rfl⟩
      obtain ⟨k, z1, z2⟩ := z
      refine BindsTo.of_looks fun M => ?_
      rw [z1]
      exact looks_items KX lT oT (.of_pure z2)
  have F0 := fnQ_super (N := ["self", "person", "day", "version", "__class__"]) (ps := ["self", "person", "day", "version"]) (base := base) (mg := mg) (w := w) (ar := (defArgs (inClass (top 26) 0)).args.headD default) (sa := aCons (sTup (aCons (sC (.str "knew")) (aCons (sVar 1) (aCons (sVar 2) (aCons (sVar 3) (aNil)))))) aNil) SK lk (nscope_by (by decide +kernel)) rfl rfl Z.f_super rfl hb (f_Claim_initD (base := base) Z Y S)
    (fun A outer st H => la_cons (le_tup (la_cons le_str (la_cons (lv 1) (la_cons (lv 2) (la_cons (lv 3) la_nil))))) la_nil) (fun env => rfl) (fun env => rfl) (fun env => ⟨_, rfl⟩)
  refine F0.imp fun ds m Pd h => ?_
  obtain ⟨p, args, rfl, hn, hm, hp⟩ := h
  match args, hn with
  | [_, _, _], _ => exact ⟨rfl, p, [], rfl, hm, (by simp), p, _, _, _, rfl, hm, .inr (.inl rfl), rfl, _, Le.refl, hp⟩
theorem f_Told_init (Z : Tx PySem.Challenge.pw_heardby_k19_whole_books_read_back w K mg (adK K)) (Y : Ty K (adK K)) (S : SaysK w K) : FnQ false PySem.Challenge.pw_heardby_k19_whole_books_read_back w K mg base 3 ((adK K).m "Told" "__init__") (T_sub ((adK K).g "Told") 4 "told") := by
  obtain ⟨oc, od, osl, cl, dV, kV, doc, pm, an, cdv, ct, hcl, lk, hcd, hD, _, _⟩ := Dn.fnx (d := d_Told_init) (obsL_at S.obs (i := 62) rfl) (okL_at S.ok (i := 62) rfl)
  obtain ⟨cc, cda, e1, e2, SK⟩ := bSup_ok (q := "Told.__init__") lk (sup_Told S.ck)
  have e1 : cl = [(("__class__" : Str), cc)] := e1
  have e2 : cdv = .ref cda := e2
  subst e1 e2
  have hb : ∀ (st : Shared) (us : List Value), us.length = (["self", "teller", "hearer", "first", "last"] : List Str).length → K.In st.heap → BindsTo st (PySem.W.fnX "__init__" "Told.__init__" (defArgs (inClass (top 27) 0)) (defBody (inClass (top 27) 0)) (defScope (inClass (top 27) 0)) [("__class__", cc)] dV kV doc pm an (.ref cda) ct) ⟨us, []⟩ ((["self", "teller", "hearer", "first", "last"] : List Str).zip us) := by
    intro st us hl KX
    rcases hD with ⟨e, _⟩ | ⟨_, TT, oo, its, mm, rfl, lT, oT, rT⟩
    · cases e
    · have l1 : its.length = 4 := rT.length.symm
      have z : ∃ k, bindArgs (PySem.W.fnX "__init__" "Told.__init__" (defArgs (inClass (top 27) 0)) (defBody (inClass (top 27) 0)) (defScope (inClass (top 27) 0)) [("__class__", cc)] (.ref TT) kV doc pm an (.ref cda) ct) ⟨us, []⟩ = seqItems? (.ref TT) >>= k ∧ k (some its.toArray) = pure ((["self", "teller", "hearer", "first", "last"] : List Str).zip us) := match us, hl, its, l1 with | [_, _, _, _, _], _, [_, _, _, _], _ => ⟨_, rfl, rfl⟩
      obtain ⟨k, z1, z2⟩ := z
      refine BindsTo.of_looks fun M => ?_
      rw [z1]
      exact looks_items KX lT oT (.of_pure z2)
  have F0 := fnQ_super (N := ["self", "teller", "hearer", "first", "last", "__class__"]) (ps := ["self", "teller", "hearer", "first", "last"]) (base := base) (mg := mg) (w := w) (ar := (defArgs (inClass (top 27) 0)).args.headD default) (sa := aCons (sTup (aCons (sC (.str "told")) (aCons (sVar 1) (aCons (sVar 2) (aCons (sVar 3) (aCons (sVar 4) (aNil))))))) aNil) SK lk (nscope_by (by decide +kernel)) rfl rfl Z.f_super rfl hb (f_Claim_initD (base := base) Z Y S)
    (fun A outer st H => la_cons (le_tup (la_cons le_str (la_cons (lv 1) (la_cons (lv 2) (la_cons (lv 3) (la_cons (lv 4) la_nil)))))) la_nil) (fun env => rfl) (fun env => rfl) (fun env => ⟨_, rfl⟩)
  refine F0.imp fun ds m Pd h => ?_
  obtain ⟨p, args, rfl, hn, hm, hp⟩ := h
  match args, hn with
  | [_, _, _, _], _ => exact ⟨rfl, p, [], rfl, hm, (by simp), p, _, _, _, rfl, hm, .inr (.inr (.inl rfl)), rfl, _, Le.refl, hp⟩
theorem f_Began_init (Z : Tx PySem.Challenge.pw_heardby_k19_whole_books_read_back w K mg (adK K)) (Y : Ty K (adK K)) (S : SaysK w K) : FnQ false PySem.Challenge.pw_heardby_k19_whole_books_read_back w K mg base 3 ((adK K).m "Began" "__init__") (T_sub ((adK K).g "Began") 2 "began") := by
  obtain ⟨oc, od, osl, cl, dV, kV, doc, pm, an, cdv, ct, hcl, lk, hcd, hD, _, _⟩ := Dn.fnx (d := d_Began_init) (obsL_at S.obs (i := 63) rfl) (okL_at S.ok (i := 63) rfl)
  obtain ⟨cc, cda, e1, e2, SK⟩ := bSup_ok (q := "Began.__init__") lk (sup_Began S.ck)
  have e1 : cl = [(("__class__" : Str), cc)] := e1
  have e2 : cdv = .ref cda := e2
  subst e1 e2
  have hb : ∀ (st : Shared) (us : List Value), us.length = (["self", "person", "version"] : List Str).length → K.In st.heap → BindsTo st (PySem.W.fnX "__init__" "Began.__init__" (defArgs (inClass (top 28) 0)) (defBody (inClass (top 28) 0)) (defScope (inClass (top 28) 0)) [("__class__", cc)] dV kV doc pm an (.ref cda) ct) ⟨us, []⟩ ((["self", "person", "version"] : List Str).zip us) := by
    intro st us hl KX
    rcases hD with ⟨e, _⟩ | ⟨_, TT, oo, its, mm, rfl, lT, oT, rT⟩
    · cases e
    · have l1 : its.length = 1 := rT.length.symm
      have z : ∃ k, bindArgs (PySem.W.fnX "__init__" "Began.__init__" (defArgs (inClass (top 28) 0)) (defBody (inClass (top 28) 0)) (defScope (inClass (top 28) 0)) [("__class__", cc)] (.ref TT) kV doc pm an (.ref cda) ct) ⟨us, []⟩ = seqItems? (.ref TT) >>= k ∧ k (some its.toArray) = pure ((["self", "person", "version"] : List Str).zip us) := match us, hl, its, l1 with | [_, _, _], _, [_], _ => ⟨_, rfl, rfl⟩
      obtain ⟨k, z1, z2⟩ := z
      refine BindsTo.of_looks fun M => ?_
      rw [z1]
      exact looks_items KX lT oT (.of_pure z2)
  have F0 := fnQ_super (N := ["self", "person", "version", "__class__"]) (ps := ["self", "person", "version"]) (base := base) (mg := mg) (w := w) (ar := (defArgs (inClass (top 28) 0)).args.headD default) (sa := aCons (sTup (aCons (sC (.str "began")) (aCons (sVar 1) (aCons (sVar 2) (aNil))))) aNil) SK lk (nscope_by (by decide +kernel)) rfl rfl Z.f_super rfl hb (f_Claim_initD (base := base) Z Y S)
    (fun A outer st H => la_cons (le_tup (la_cons le_str (la_cons (lv 1) (la_cons (lv 2) la_nil)))) la_nil) (fun env => rfl) (fun env => rfl) (fun env => ⟨_, rfl⟩)
  refine F0.imp fun ds m Pd h => ?_
  obtain ⟨p, args, rfl, hn, hm, hp⟩ := h
  match args, hn with
  | [_, _], _ => exact ⟨rfl, p, [], rfl, hm, (by simp), p, _, _, _, rfl, hm, .inr (.inr (.inr (.inl rfl))), rfl, _, Le.refl, hp⟩
theorem f_Held_init (Z : Tx PySem.Challenge.pw_heardby_k19_whole_books_read_back w K mg (adK K)) (Y : Ty K (adK K)) (S : SaysK w K) : FnQ false PySem.Challenge.pw_heardby_k19_whole_books_read_back w K mg base 3 ((adK K).m "Held" "__init__") (T_sub ((adK K).g "Held") 1 "held") := by
  obtain ⟨oc, od, osl, cl, dV, kV, doc, pm, an, cdv, ct, hcl, lk, hcd, hD, _, _⟩ := Dn.fnx (d := d_Held_init) (obsL_at S.obs (i := 64) rfl) (okL_at S.ok (i := 64) rfl)
  obtain ⟨cc, cda, e1, e2, SK⟩ := bSup_ok (q := "Held.__init__") lk (sup_Held S.ck)
  have e1 : cl = [(("__class__" : Str), cc)] := e1
  have e2 : cdv = .ref cda := e2
  subst e1 e2
  have hb : ∀ (st : Shared) (us : List Value), us.length = (["self", "meeting"] : List Str).length → K.In st.heap → BindsTo st (PySem.W.fnX "__init__" "Held.__init__" (defArgs (inClass (top 29) 0)) (defBody (inClass (top 29) 0)) (defScope (inClass (top 29) 0)) [("__class__", cc)] dV kV doc pm an (.ref cda) ct) ⟨us, []⟩ ((["self", "meeting"] : List Str).zip us) := by
    intro st us hl KX
    have hD : DflV K dV [] := hD
    rcases hD with ⟨_, rfl⟩ | ⟨e, _⟩
    · exact BindsTo.of_eq (match us, hl with | [_, _], _ => rfl)
    · exact absurd rfl e
  have F0 := fnQ_super (N := ["self", "meeting", "__class__"]) (ps := ["self", "meeting"]) (base := base) (mg := mg) (w := w) (ar := (defArgs (inClass (top 29) 0)).args.headD default) (sa := aCons (sTup (aCons (sC (.str "held")) (aCons (sVar 1) (aNil)))) aNil) SK lk (nscope_by (by decide +kernel)) rfl rfl Z.f_super rfl hb (f_Claim_initD (base := base) Z Y S)
    (fun A outer st H => la_cons (le_tup (la_cons le_str (la_cons (lv 1) la_nil))) la_nil) (fun env => rfl) (fun env => rfl) (fun env => ⟨_, rfl⟩)
  refine F0.imp fun ds m Pd h => ?_
  obtain ⟨p, args, rfl, hn, hm, hp⟩ := h
  match args, hn with
  | [_], _ => exact ⟨rfl, p, [], rfl, hm, (by simp), p, _, _, _, rfl, hm, .inr (.inr (.inr (.inr (.inl rfl)))), rfl, _, Le.refl, hp⟩
theorem f_Turned_init (Z : Tx PySem.Challenge.pw_heardby_k19_whole_books_read_back w K mg (adK K)) (Y : Ty K (adK K)) (S : SaysK w K) : FnQ false PySem.Challenge.pw_heardby_k19_whole_books_read_back w K mg base 3 ((adK K).m "Turned" "__init__") (T_sub ((adK K).g "Turned") 3 "turned") := by
  obtain ⟨oc, od, osl, cl, dV, kV, doc, pm, an, cdv, ct, hcl, lk, hcd, hD, _, _⟩ := Dn.fnx (d := d_Turned_init) (obsL_at S.obs (i := 65) rfl) (okL_at S.ok (i := 65) rfl)
  obtain ⟨cc, cda, e1, e2, SK⟩ := bSup_ok (q := "Turned.__init__") lk (sup_Turned S.ck)
  have e1 : cl = [(("__class__" : Str), cc)] := e1
  have e2 : cdv = .ref cda := e2
  subst e1 e2
  have hb : ∀ (st : Shared) (us : List Value), us.length = (["self", "person", "old", "new"] : List Str).length → K.In st.heap → BindsTo st (PySem.W.fnX "__init__" "Turned.__init__" (defArgs (inClass (top 30) 0)) (defBody (inClass (top 30) 0)) (defScope (inClass (top 30) 0)) [("__class__", cc)] dV kV doc pm an (.ref cda) ct) ⟨us, []⟩ ((["self", "person", "old", "new"] : List Str).zip us) := by
    intro st us hl KX
    rcases hD with ⟨e, _⟩ | ⟨_, TT, oo, its, mm, rfl, lT, oT, rT⟩
    · cases e
    · have l1 : its.length = 2 := rT.length.symm
      have z : ∃ k, bindArgs (PySem.W.fnX "__init__" "Turned.__init__" (defArgs (inClass (top 30) 0)) (defBody (inClass (top 30) 0)) (defScope (inClass (top 30) 0)) [("__class__", cc)] (.ref TT) kV doc pm an (.ref cda) ct) ⟨us, []⟩ = seqItems? (.ref TT) >>= k ∧ k (some its.toArray) = pure ((["self", "person", "old", "new"] : List Str).zip us) := match us, hl, its, l1 with | [_, _, _, _], _, [_, _], _ => ⟨_, rfl, rfl⟩
      obtain ⟨k, z1, z2⟩ := z
      refine BindsTo.of_looks fun M => ?_
      rw [z1]
      exact looks_items KX lT oT (.of_pure z2)
  have F0 := fnQ_super (N := ["self", "person", "old", "new", "__class__"]) (ps := ["self", "person", "old", "new"]) (base := base) (mg := mg) (w := w) (ar := (defArgs (inClass (top 30) 0)).args.headD default) (sa := aCons (sTup (aCons (sC (.str "turned")) (aCons (sVar 1) (aCons (sVar 2) (aCons (sVar 3) (aNil)))))) aNil) SK lk (nscope_by (by decide +kernel)) rfl rfl Z.f_super rfl hb (f_Claim_initD (base := base) Z Y S)
    (fun A outer st H => la_cons (le_tup (la_cons le_str (la_cons (lv 1) (la_cons (lv 2) (la_cons (lv 3) la_nil))))) la_nil) (fun env => rfl) (fun env => rfl) (fun env => ⟨_, rfl⟩)
  refine F0.imp fun ds m Pd h => ?_
  obtain ⟨p, args, rfl, hn, hm, hp⟩ := h
  match args, hn with
  | [_, _, _], _ => exact ⟨rfl, p, [], rfl, hm, (by simp), p, _, _, _, rfl, hm, .inr (.inr (.inr (.inr (.inr (rfl))))), rfl, _, Le.refl, hp⟩
theorem f__law_claim (Z : Tx PySem.Challenge.pw_heardby_k19_whole_books_read_back w K mg (adK K)) (Y : Ty K (adK K)) (S : SaysK w K) : FnQ false PySem.Challenge.pw_heardby_k19_whole_books_read_back w K mg base 5 ((adK K).g "_law_claim") (T__law_claim (adK K)) := by
  obtain ⟨fd, F⟩ := S.def_ 66 (d := d__law_claim) rfl rfl
  have F : FunD K "_law_claim" "_law_claim" (defArgs (top 68)) (defBody (top 68)) (defScope (top 68)) [] [] ((adK K).g "_law_claim") fd := F
  exact fnQ_of F sc__law_claim (F.bindsN fun _ _ _ _ _ _ us hl => match us, hl with | [_], _ => rfl) (fun ds m Pd h => by first | (obtain ⟨rfl, _⟩ := h; rfl) | (obtain ⟨_, rfl, _⟩ := h; rfl) | (obtain ⟨_, _, rfl, _⟩ := h; rfl) | (obtain ⟨_, _, _, rfl, _⟩ := h; rfl) | (obtain ⟨_, _, _, _, rfl, _⟩ := h; rfl) | (obtain ⟨_, _, _, _, _, rfl, _⟩ := h; rfl) | (obtain ⟨_, _, _, _, _, _, rfl, _⟩ := h; rfl) | (obtain ⟨_, _, _, _, _, _, _, rfl, _⟩ := h; rfl) | (obtain ⟨_, _, _, _, _, _, _, _, rfl, _⟩ := h; rfl)) (b__law_claim (P := PySem.Challenge.pw_heardby_k19_whole_books_read_back) (w := w) (mg := mg) (base := base) Z (f_Knew_init Z Y S) (f_Told_init Z Y S) (f_Began_init Z Y S) (f_Held_init Z Y S) (f_Turned_init Z Y S) (f_Claim_invert Z Y S)) (fun ds m Pd h => p__law_claim h)
theorem f__law_clause (Z : Tx PySem.Challenge.pw_heardby_k19_whole_books_read_back w K mg (adK K)) (Y : Ty K (adK K)) (S : SaysK w K) : FnQ false PySem.Challenge.pw_heardby_k19_whole_books_read_back w K mg base 6 ((adK K).g "_law_clause") (T__law_clause (adK K)) := by
  obtain ⟨fd, F⟩ := S.def_ 67 (d := d__law_clause) rfl rfl
  have F : FunD K "_law_clause" "_law_clause" (defArgs (top 69)) (defBody (top 69)) (defScope (top 69)) [] [] ((adK K).g "_law_clause") fd := F
  exact fnQ_of F sc__law_clause (F.bindsN fun _ _ _ _ _ _ us hl => match us, hl with | [_], _ => rfl) (fun ds m Pd h => by first | (obtain ⟨rfl, _⟩ := h; rfl) | (obtain ⟨_, rfl, _⟩ := h; rfl) | (obtain ⟨_, _, rfl, _⟩ := h; rfl) | (obtain ⟨_, _, _, rfl, _⟩ := h; rfl) | (obtain ⟨_, _, _, _, rfl, _⟩ := h; rfl) | (obtain ⟨_, _, _, _, _, rfl, _⟩ := h; rfl) | (obtain ⟨_, _, _, _, _, _, rfl, _⟩ := h; rfl) | (obtain ⟨_, _, _, _, _, _, _, rfl, _⟩ := h; rfl) | (obtain ⟨_, _, _, _, _, _, _, _, rfl, _⟩ := h; rfl)) (b__law_clause (P := PySem.Challenge.pw_heardby_k19_whole_books_read_back) (w := w) (mg := mg) (base := base) Z (f__law_claim Z Y S) (f_Claim_or Z Y S) (f_Clause_or Z Y S)) (fun ds m Pd h => p__law_clause Y h)
theorem f__law_build (Z : Tx PySem.Challenge.pw_heardby_k19_whole_books_read_back w K mg (adK K)) (Y : Ty K (adK K)) (S : SaysK w K) : FnQ false PySem.Challenge.pw_heardby_k19_whole_books_read_back w K mg base 7 ((adK K).g "_law_build") (T__law_build (adK K)) := by
  obtain ⟨fd, F⟩ := S.def_ 68 (d := d__law_build) rfl rfl
  have F : FunD K "_law_build" "_law_build" (defArgs (top 70)) (defBody (top 70)) (defScope (top 70)) [] [] ((adK K).g "_law_build") fd := F
  exact fnQ_of F sc__law_build (F.bindsN fun _ _ _ _ _ _ us hl => match us, hl with | [_], _ => rfl) (fun ds m Pd h => by first | (obtain ⟨rfl, _⟩ := h; rfl) | (obtain ⟨_, rfl, _⟩ := h; rfl) | (obtain ⟨_, _, rfl, _⟩ := h; rfl) | (obtain ⟨_, _, _, rfl, _⟩ := h; rfl) | (obtain ⟨_, _, _, _, rfl, _⟩ := h; rfl) | (obtain ⟨_, _, _, _, _, rfl, _⟩ := h; rfl) | (obtain ⟨_, _, _, _, _, _, rfl, _⟩ := h; rfl) | (obtain ⟨_, _, _, _, _, _, _, rfl, _⟩ := h; rfl) | (obtain ⟨_, _, _, _, _, _, _, _, rfl, _⟩ := h; rfl)) (b__law_build (P := PySem.Challenge.pw_heardby_k19_whole_books_read_back) (w := w) (mg := mg) (base := base) Z (f_Book_init Z Y S) (f_Book_meet Z Y S) (f_Book_may_turn Z Y S) (f_Book_fact Z Y S) (f__law_clause Z Y S) (f_Book_change Z Y S)) (fun ds m Pd h => p__law_build h)
theorem f__law_lines (Z : Tx PySem.Challenge.pw_heardby_k19_whole_books_read_back w K mg (adK K)) (Y : Ty K (adK K)) (S : SaysK w K) : FnQ false PySem.Challenge.pw_heardby_k19_whole_books_read_back w K mg base 3 ((adK K).g "_law_lines") T__law_lines := by
  obtain ⟨fd, F⟩ := S.def_ 69 (d := d__law_lines) rfl rfl
  have F : FunD K "_law_lines" "_law_lines" (defArgs (top 71)) (defBody (top 71)) (defScope (top 71)) [] [] ((adK K).g "_law_lines") fd := F
  exact fnQ_of F sc__law_lines (F.bindsN fun _ _ _ _ _ _ us hl => match us, hl with | [_], _ => rfl) (fun ds m Pd h => by first | (obtain ⟨rfl, _⟩ := h; rfl) | (obtain ⟨_, rfl, _⟩ := h; rfl) | (obtain ⟨_, _, rfl, _⟩ := h; rfl) | (obtain ⟨_, _, _, rfl, _⟩ := h; rfl) | (obtain ⟨_, _, _, _, rfl, _⟩ := h; rfl) | (obtain ⟨_, _, _, _, _, rfl, _⟩ := h; rfl) | (obtain ⟨_, _, _, _, _, _, rfl, _⟩ := h; rfl) | (obtain ⟨_, _, _, _, _, _, _, rfl, _⟩ := h; rfl) | (obtain ⟨_, _, _, _, _, _, _, _, rfl, _⟩ := h; rfl)) (b__law_lines (P := PySem.Challenge.pw_heardby_k19_whole_books_read_back) (w := w) (mg := mg) (base := base) Z (f__law_text Z Y S)) (fun ds m Pd h => p__law_lines h)
theorem f__law_fact_shows (Z : Tx PySem.Challenge.pw_heardby_k19_whole_books_read_back w K mg (adK K)) (Y : Ty K (adK K)) (S : SaysK w K) : FnQ true PySem.Challenge.pw_heardby_k19_whole_books_read_back w K mg base 4 ((adK K).g "_law_fact_shows") (T__law_fact_shows (adK K)) := by
  obtain ⟨fd, F⟩ := S.def_ 70 (d := d__law_fact_shows) rfl rfl
  have F : FunD K "_law_fact_shows" "_law_fact_shows" (defArgs (top 72)) (defBody (top 72)) (defScope (top 72)) [] [] ((adK K).g "_law_fact_shows") fd := F
  exact fnQ_of F sc__law_fact_shows (F.bindsN fun _ _ _ _ _ _ us hl => match us, hl with | [_, _], _ => rfl) (fun ds m Pd h => by first | (obtain ⟨rfl, _⟩ := h; rfl) | (obtain ⟨_, rfl, _⟩ := h; rfl) | (obtain ⟨_, _, rfl, _⟩ := h; rfl) | (obtain ⟨_, _, _, rfl, _⟩ := h; rfl) | (obtain ⟨_, _, _, _, rfl, _⟩ := h; rfl) | (obtain ⟨_, _, _, _, _, rfl, _⟩ := h; rfl) | (obtain ⟨_, _, _, _, _, _, rfl, _⟩ := h; rfl) | (obtain ⟨_, _, _, _, _, _, _, rfl, _⟩ := h; rfl) | (obtain ⟨_, _, _, _, _, _, _, _, rfl, _⟩ := h; rfl)) (b__law_fact_shows (P := PySem.Challenge.pw_heardby_k19_whole_books_read_back) (w := w) (mg := mg) (base := base) Z (f_Clause_claims Z Y S) (f__law_same Z Y S)) (fun ds m Pd h => p__law_fact_shows Y h)
theorem f__law_within (Z : Tx PySem.Challenge.pw_heardby_k19_whole_books_read_back w K mg (adK K)) (Y : Ty K (adK K)) (S : SaysK w K) : FnQ false PySem.Challenge.pw_heardby_k19_whole_books_read_back w K mg base 6 ((adK K).g "_law_within") (T__law_within (adK K)) := by
  obtain ⟨fd, F⟩ := S.def_ 71 (d := d__law_within) rfl rfl
  have F : FunD K "_law_within" "_law_within" (defArgs (top 73)) (defBody (top 73)) (defScope (top 73)) [] [] ((adK K).g "_law_within") fd := F
  exact fnQ_of F sc__law_within (F.bindsN fun _ _ _ _ _ _ us hl => match us, hl with | [_, _, _], _ => rfl) (fun ds m Pd h => by first | (obtain ⟨rfl, _⟩ := h; rfl) | (obtain ⟨_, rfl, _⟩ := h; rfl) | (obtain ⟨_, _, rfl, _⟩ := h; rfl) | (obtain ⟨_, _, _, rfl, _⟩ := h; rfl) | (obtain ⟨_, _, _, _, rfl, _⟩ := h; rfl) | (obtain ⟨_, _, _, _, _, rfl, _⟩ := h; rfl) | (obtain ⟨_, _, _, _, _, _, rfl, _⟩ := h; rfl) | (obtain ⟨_, _, _, _, _, _, _, rfl, _⟩ := h; rfl) | (obtain ⟨_, _, _, _, _, _, _, _, rfl, _⟩ := h; rfl)) (b__law_within (P := PySem.Challenge.pw_heardby_k19_whole_books_read_back) (w := w) (mg := mg) (base := base) Z (f_Book_contains Z Y S) (f__law_claim Z Y S)) (fun ds m Pd h => p__law_within h)
theorem f__law_shows (Z : Tx PySem.Challenge.pw_heardby_k19_whole_books_read_back w K mg (adK K)) (Y : Ty K (adK K)) (S : SaysK w K) : FnQ true PySem.Challenge.pw_heardby_k19_whole_books_read_back w K mg base 10 ((adK K).g "_law_shows") (T__law_shows (adK K)) := by
  obtain ⟨fd, F⟩ := S.def_ 72 (d := d__law_shows) rfl rfl
  have F : FunD K "_law_shows" "_law_shows" (defArgs (top 74)) (defBody (top 74)) (defScope (top 74)) [] [] ((adK K).g "_law_shows") fd := F
  exact fnQ_of F sc__law_shows (F.bindsN fun _ _ _ _ _ _ us hl => match us, hl with | [_, _], _ => rfl) (fun ds m Pd h => by first | (obtain ⟨rfl, _⟩ := h; rfl) | (obtain ⟨_, rfl, _⟩ := h; rfl) | (obtain ⟨_, _, rfl, _⟩ := h; rfl) | (obtain ⟨_, _, _, rfl, _⟩ := h; rfl) | (obtain ⟨_, _, _, _, rfl, _⟩ := h; rfl) | (obtain ⟨_, _, _, _, _, rfl, _⟩ := h; rfl) | (obtain ⟨_, _, _, _, _, _, rfl, _⟩ := h; rfl) | (obtain ⟨_, _, _, _, _, _, _, rfl, _⟩ := h; rfl) | (obtain ⟨_, _, _, _, _, _, _, _, rfl, _⟩ := h; rfl)) (b__law_shows (P := PySem.Challenge.pw_heardby_k19_whole_books_read_back) (w := w) (mg := mg) (base := base) Z (f_Book_people Z Y S) (f_Book_versions Z Y S) (f_Book_meetings Z Y S) (f_Book_turns Z Y S) (f_Book_limits Z Y S) (f_Book_begin_limit Z Y S) (f_Book_len Z Y S) (f_Book_facts Z Y S) (f_Book_text Z Y S) (f__law_lines Z Y S) (f__law_within Z Y S) (f__law_fact_shows Z Y S)) (fun ds m Pd h => p__law_shows Y h)
theorem f_Book_undo (Z : Tx PySem.Challenge.pw_heardby_k19_whole_books_read_back w K mg (adK K)) (Y : Ty K (adK K)) (S : SaysK w K) : ∃ fd, FnOk PySem.Challenge.pw_heardby_k19_whole_books_read_back w K mg base (L2.CX PySem.Challenge.pw_heardby_k19_whole_books_read_back w) 2 ((adK K).m "Book" "undo") fd ["self"] (SpU K ((adK K).g "NothingToUndo") (U_undo (adK K))) ∧ Binds K fd ["self"] [] := by
  obtain ⟨fd, F⟩ := S.def_ 75 (d := d_Book_undo) rfl rfl
  have F : FunD K "undo" "Book.undo" (defArgs (inClass (top 51) 28)) (defBody (inClass (top 51) 28)) (defScope (inClass (top 51) 28)) [] [] ((adK K).m "Book" "undo") fd := F
  obtain ⟨x1, x2, x3, x4⟩ := exc_of S.ck
  refine ⟨fd, ?_, F.bindsN fun _ _ _ _ _ _ us hl => match us, hl with | [_], _ => rfl⟩
  refine fn_raises (N := ["self"]) (ps := ["self"]) (sc := sTest (sBin (rhoEq false) (sBlt rhoLen (aCons (sFld (GBook (adK K)) "_past" (sVar 0)) aNil)) (sC (.int 0)))) (x := "NothingToUndo") F ⟨rfl, rfl, rfl, by decide +kernel, rfl, by decide +kernel, by decide +kernel⟩ rfl PySem.F.excBase_ValueError x1 Z.g_NothingToUndo x2 x3 x4 rfl (by decide) ?_ ?_ ?_
  · intro cdv A outer st H E hr
    exact lt_cmp (lo_eq (Room.u64 hr)) (le_blt lc_len Z.f_len bt_len (la_cons (le_fld Z.a__past (lv 0)) la_nil)) le_int
  · intro ds m h
    obtain ⟨_, _, rfl, _⟩ := h; rfl
  · intro ds m h
    obtain ⟨k, B, rfl, hb, hn⟩ := h
    exact undo_test hb hn
theorem f__law_nothing (Z : Tx PySem.Challenge.pw_heardby_k19_whole_books_read_back w K mg (adK K)) (Y : Ty K (adK K)) (S : SaysK w K) : FnQ false PySem.Challenge.pw_heardby_k19_whole_books_read_back w K mg base 3 ((adK K).g "_law_nothing") (T__law_nothing (adK K)) := by
  obtain ⟨fd, F⟩ := S.def_ 73 (d := d__law_nothing) rfl rfl
  have F : FunD K "_law_nothing" "_law_nothing" (defArgs (top 75)) (defBody (top 75)) (defScope (top 75)) [] [] ((adK K).g "_law_nothing") fd := F
  obtain ⟨fdU, FU, BU⟩ := f_Book_undo (base := base) Z Y S
  exact fnQ_of F sc__law_nothing (F.bindsN fun _ _ _ _ _ _ us hl => match us, hl with | [_], _ => rfl) (fun ds m Pd h => by first | (obtain ⟨rfl, _⟩ := h; rfl) | (obtain ⟨_, rfl, _⟩ := h; rfl) | (obtain ⟨_, _, rfl, _⟩ := h; rfl) | (obtain ⟨_, _, _, rfl, _⟩ := h; rfl) | (obtain ⟨_, _, _, _, rfl, _⟩ := h; rfl) | (obtain ⟨_, _, _, _, _, rfl, _⟩ := h; rfl) | (obtain ⟨_, _, _, _, _, _, rfl, _⟩ := h; rfl) | (obtain ⟨_, _, _, _, _, _, _, rfl, _⟩ := h; rfl) | (obtain ⟨_, _, _, _, _, _, _, _, rfl, _⟩ := h; rfl)) (b__law_nothing (P := PySem.Challenge.pw_heardby_k19_whole_books_read_back) (w := w) (mg := mg) (base := base) Z FU BU) (fun ds m Pd h => p__law_nothing h)
theorem f_law (Z : Tx PySem.Challenge.pw_heardby_k19_whole_books_read_back w K mg (adK K)) (Y : Ty K (adK K)) (S : SaysK w K) : FnQ true PySem.Challenge.pw_heardby_k19_whole_books_read_back w K mg base 11 ((adK K).g "law") T_law := by
  obtain ⟨fd, F⟩ := S.def_ 74 (d := d_law) rfl rfl
  have F : FunD K "law" "law" (defArgs (top 76)) (defBody (top 76)) (defScope (top 76)) [] [] ((adK K).g "law") fd := F
  exact fnQ_of F sc_law (F.bindsN fun _ _ _ _ _ _ us hl => match us, hl with | [_], _ => rfl) (fun ds m Pd h => by first | (obtain ⟨rfl, _⟩ := h; rfl) | (obtain ⟨_, rfl, _⟩ := h; rfl) | (obtain ⟨_, _, rfl, _⟩ := h; rfl) | (obtain ⟨_, _, _, rfl, _⟩ := h; rfl) | (obtain ⟨_, _, _, _, rfl, _⟩ := h; rfl) | (obtain ⟨_, _, _, _, _, rfl, _⟩ := h; rfl) | (obtain ⟨_, _, _, _, _, _, rfl, _⟩ := h; rfl) | (obtain ⟨_, _, _, _, _, _, _, rfl, _⟩ := h; rfl) | (obtain ⟨_, _, _, _, _, _, _, _, rfl, _⟩ := h; rfl)) (b_law (P := PySem.Challenge.pw_heardby_k19_whole_books_read_back) (w := w) (mg := mg) (base := base) Z (f__law_box Z Y S) (f__law_world Z Y S) (f__law_limits Z Y S) (f__law_lines Z Y S) (f_Book_read Z Y S) (f__law_shows Z Y S) (f_Book_text Z Y S) (f__law_nothing Z Y S) (f__law_build Z Y S) (f__law_take Z Y S)) (fun ds m Pd h => p_law Y h)
end
end HB
set_option Elab.async false
set_option linter.all false
set_option maxRecDepth 100000
set_option maxHeartbeats 4000000
/-! the law's call, from the caller -/
namespace HB
open PySem PySem.Spec PyProof.Rows L2
theorem law_run {P : Program} {w : World} {K : PySem.W.Frag} {mg mb : Str → Option Value} {k : Nat} {fa a : Addr} {T : PT1} {s₁ : Shared} {vs : List Value} {ns : List Int}
    (KX : K.In s₁.heap) (hns : s₁.heap.Ns mainGlobals mg) (hb : s₁.heap.Ns builtinsNs mb) (hbb : ∀ x : Str, x ≠ "__name__" → mb x = bootBuiltins x) (hlim : s₁.heap.NoLimit) (hg : s₁.gens = #[])
    (ha : s₁.heap.get? a = some { cls := .type "list", data := .seq vs.toArray }) (hi : IntsAre vs ns) (hl : ns.length ≤ sizeLine) (hr : Room k callerA)
    (F : ∀ base : Heap, K.In base → base.Ns mainGlobals mg → FnQ true P w K mg base k fa T) (hT : ∀ (m : Mem) (Pd : PD), (∀ m', Pd (.bl true) m') → T [.scr ns] m Pd) :
    codeAny (model P w) callerA (.call (.ref fa) ⟨[.ref a], []⟩) (fun r s' => r = .ok (.ret (.bool true)) ∧ OldK s₁.heap s'.heap ∧ s'.os = s₁.os ∧ AllBare s'.gens) s₁ := by
  have hv := vals_ints hi
  have hlv := hi.length
  have run : ∀ H : Hp, (∀ b u, H b = some u → b = a ∧ u = HO.frz { cls := .type "list", data := .seq vs.toArray } (.lst (ns.map V.int))) → (∀ u, H a = some u → K.lookup a = none) → ScrAt K H (fun _ => none) a (ns.map V.int) → HOk P w H s₁.heap →
      codeAny (model P w) callerA (.call (.ref fa) ⟨[.ref a], []⟩) (fun r s' => r = .ok (.ret (.bool true)) ∧ OldK s₁.heap s'.heap ∧ s'.os = s₁.os ∧ AllBare s'.gens) s₁ := by
    intro H h1 h2 h3 h4
    have stay : ∀ b o, s₁.heap.get? b = some o → (b = a → H a = none) → (hidT s₁.heap H).get? b = some o := fun b o e hn => hidT_get e (by
      cases z : H b with
      | none => rfl
      | some u =>
        obtain ⟨hb, _⟩ := h1 b u z
        rw [hb, hn hb] at z
        exact z.symm)
    have nsk : ∀ (b : Addr) (m : Str → Option Value), s₁.heap.Ns b m → (hidT s₁.heap H).Ns b m := by
      rintro b m ⟨o, es, ep, e, d, r⟩
      refine ⟨o, es, ep, stay b o e fun hb => ?_, d, r⟩
      rw [hb, ha] at e
      rw [← Option.some.inj e] at d
      exact absurd d (by intro z; cases z)
    have kin : K.In (hidT s₁.heap H) := fun b o e => stay b o (KX b o e) fun hb => by
      cases z : H a with
      | none => rfl
      | some u =>
        rw [hb, h2 u z] at e
        cases e
    obtain ⟨mc, q1, q2⟩ := hlim
    have e0 : Env0 P w K mg (hidT s₁.heap H) callerA [] s₁ H := {
      frames := rfl
      mod := ⟨kin, nsk _ _ hns, ⟨mb, nsk _ _ hb, hbb⟩, ⟨mc, nsk _ _ q1, q2⟩⟩
      bs := fun b o e => of_hidT e
      bsz := by rw [hidT_size]; exact Nat.le_refl _
      funs := trivial
      frf := fun b z => absurd (show b ∈ ([] : List Addr) from z) (by simp)
      hok := h4
      bare := .of_eq hg }
    have hs : SpG K T [V.ref a] H (fun v _ => v = .bl true) := by
      refine ⟨[.scr ns], fun _ => none, fun d _ => d = .bl true, Iss.one (is_scr.mpr ⟨a, rfl, h3⟩), fun x u z => (by cases z), hT _ _ fun _ => rfl, fun d m' v H' e _ _ i => ?_⟩
      have e : d = .bl true := e
      rw [e] at i
      exact is_bl.mp i
    refine codeAny_mono (F _ kin (nsk _ _ hns) callerA [] s₁ H [.ref a] [.ref a] _ hr (fun _ => rfl) e0 (.cons rfl .nil) hs) fun r s' h => ?_
    cases r with
    | error e => exact False.elim h
    | ok fl =>
      cases fl with
      | ret u =>
        obtain ⟨v, H', g1, g2, g3, g4, g5, g6⟩ := h
        have g6 : v = V.bl true := g6
        rw [g6] at g5
        have g5 : u = Value.bool true := g5
        refine ⟨by rw [g5], OldK.of_keep fun b o e => ?_, g1, g2⟩
        cases z : H b with
        | none => exact g3.keep b o e z (fun y => absurd (show b ∈ ([] : List Addr) from y) (by simp)) (by simp)
        | some x =>
          obtain ⟨_, hx⟩ := h1 b x z
          rw [hx] at z
          obtain ⟨p1, _⟩ := g4 b _ (g3.frzs b _ _ z)
          obtain ⟨p2, _⟩ := h4 b _ z
          exact p1.trans (p2.symm.trans e)
      | _ => exact False.elim h
  cases hk : K.lookup a with
  | some o =>
    have e := (KX a o hk).symm.trans ha
    have e : o = { cls := .type "list", data := .seq vs.toArray } := Option.some.inj e
    subst e
    refine run (fun _ => none) (fun b u z => nomatch z) (fun u z => nomatch z) (.inr ⟨_, vs.toArray, _, hk, rfl, rfl, rfl, ?_, ?_⟩) (fun b u z => nomatch (show (none : Option HO) = some u from z))
    · rw [List.size_toArray, hlv]; exact hl
    · simpa using hv
  | none =>
    refine run (fun b => if b = a then some (HO.frz { cls := .type "list", data := .seq vs.toArray } (.lst (ns.map V.int))) else none) (fun b u z => ?_) (fun _ _ => hk) (.inl ⟨_, if_pos rfl, rfl⟩) (fun b u z => ?_)
    · by_cases hb : b = a
      · rw [if_pos hb] at z; exact ⟨hb, (Option.some.inj z).symm⟩
      · rw [if_neg hb] at z; cases z
    · by_cases hb : b = a
      · have z := (if_pos hb).symm.trans z
        rw [← Option.some.inj z, hb]
        exact ⟨ha, by rw [List.length_map]; exact hl, vs, _, hv, ha⟩
      · have z := (if_neg hb).symm.trans z
        cases z
end HB
set_option Elab.async false
set_option linter.all false
set_option maxRecDepth 100000
set_option maxHeartbeats 0
namespace HB
open PySem PySem.Spec PyProof.Rows L2
theorem law_len {m : Mem} {ns : List Int} {Pd : PD} (h : ∀ m', Pd (.bl true) m') : T_law [.scr ns] m Pd := ⟨ns, rfl, h⟩
theorem law_end {w : World} {mg mb : Str → Option Value} {fa a : Addr} {s₁ : Shared} {vs : List Value} {ns : List Int}
    (Y : ∃ K : PySem.W.Frag, K.In s₁.heap ∧ SaysK w K) (hf : mg "law" = some (.ref fa)) (hns : s₁.heap.Ns mainGlobals mg) (hb : s₁.heap.Ns builtinsNs mb) (hbb : ∀ x : Str, x ≠ "__name__" → mb x = bootBuiltins x) (hlim : s₁.heap.NoLimit) (hg : s₁.gens = #[])
    (ha : s₁.heap.get? a = some { cls := .type "list", data := .seq vs.toArray }) (hi : IntsAre vs ns) (hl : ns.length ≤ sizeLine) (hr : Room 11 callerA) :
    codeAny (model PySem.Challenge.pw_heardby_k19_whole_books_read_back w) callerA (.call (.ref fa) ⟨[.ref a], []⟩) (fun r s' => r = .ok (.ret (.bool true)) ∧ OldK s₁.heap s'.heap ∧ s'.os = s₁.os ∧ AllBare s'.gens) s₁ := by
  obtain ⟨K, KX, S⟩ := Y
  have e := hf.symm.trans (law_of KX hns S.ck)
  have e : fa = He.ga K "law" := Value.ref.inj (Option.some.inj e)
  subst e
  exact law_run KX hns hb hbb hlim hg ha hi hl hr (fun base kb nb => f_law (tx_of kb nb S.ck S.dic) (ty_of S.ck) S) fun m Pd h => law_len h
end HB
open PySem PySem.W PySem.Calls PyProof.Rows
theorem PySem.Challenge.cw_heardby_k19_whole_books_read_back_holds : PySem.Challenge.rw_heardby_k19_whole_books_read_back.Holds := by
  w_on; o_law
  refine HandSHeadRun.head_any (r := OpenLaw.row PySem.Challenge.rw_heardby_k19_whole_books_read_back) (q := view (OpenLaw.row PySem.Challenge.rw_heardby_k19_whole_books_read_back).prog [76]) (H := HB.hk) (ob := HB.ob) (M := 9000) (loose := HB.names) (d := HandSHeadRun.topDef (OpenLaw.row PySem.Challenge.rw_heardby_k19_whole_books_read_back).prog 76) (kwd := []) HB.ob_eq
    (by kernel_rfl) (fun s => by kernel_rfl) HB.runW (by kernel_rfl) (by kernel_rfl) (by kernel_rfl) (by rfl) (by first | assumption | decide +kernel) (by decide +kernel) ⟨rfl, rfl, rfl, rfl, rfl, by decide +kernel⟩ ?hw ?hc
  case hw => w_witness2
  case hc =>
    refine Att.attach_call (n := 63) rfl (by kernel_rfl) fun w s₀ s₁ mg mb fa o pm cd doc a vs ns G Y ho hd hcd hmg0 hobj hints hlen hg => ?_
    have hmg : mg ("law" : PySem.Str) = some (.ref fa) := by
      have e : (HandSHeadRun.topDef (OpenLaw.row PySem.Challenge.rw_heardby_k19_whole_books_read_back).prog 76).name = ("law" : PySem.Str) := by kernel_rfl
      rw [← e]
      exact hmg0
    exact HB.law_end Y hmg G.T.g G.T.b G.T.builtins G.T.nolimit hg hobj hints (Nat.le_trans hlen (by decide)) ⟨rfl, by decide, by decide⟩
