import PyProof.Rows.All
import Wide.All
import OpenK.AllK
import Wide.FinOn
import KE.KLam
import KE.KTryMore
import PyProof.StrLawsIn
import KE.KDictOf
import Lean
import PySem.Challenge.RW_on0253_01
open PySem PySem.W PyProof.Rows
open Array (length_toList toList_inj)
open Bool (and_eq_true false_eq_true not_eq_true' or_eq_true)
open Heap (SameBut get?_push_of_some get?_push_size get?_update_self lt_size size_push)
open Int (eq_ofNat_of_zero_le)
open List (all_cons all_eq_true any any_cons append_assoc append_nil drop_drop drop_eq_nil_iff filterMap_cons forIn_cons getD_cons_succ getElem?_eq_getElem getElem?_map head? idxOf length_append length_cons length_drop length_map length_range length_take lookup_cons map_append map_congr_left map_cons map_map mem_append mem_cons mem_map mem_range mem_singleton nodup_cons nodup_nil not_mem_nil range_succ_eq_map replicate)
open Nat (add_assoc add_comm add_lt_add_left beq ble ble_eq_true_of_le blt casesAuxOn eq_of_beq_eq_true lt_irrefl lt_succ_of_lt lt_succ_self ne_of_lt not_lt not_lt_zero succ_pos zero_add)
open Option (bind_some isNone_iff_eq_none map_eq_some_iff or_none)
open Prod (ext fst)
open Str (ofString)
set_option Elab.async false
set_option genSizeOf false
set_option maxRecDepth 100000
set_option maxHeartbeats 0
set_option hygiene false
set_option linter.all false
set_option tactic.hygienic false
set_option compiler.extract_closed false
set_option genInjectivity false
noncomputable section
namespace Mine
def qn (k : Lean.Name) (a : List Lean.Syntax) : Lean.Syntax := .node .none k a.toArray
def qm (l : List Char) : Lean.Name := match l with
  | ['n'] => `null
  | ['g'] => `group
  | '.' :: r => ("Lean.Parser.Tactic." ++ String.ofList r).toName
  | ':' :: r => ("Lean.Parser.Term." ++ String.ofList r).toName
  | r => (String.ofList r).toName
def qp (x : Lean.Syntax) : List (Lean.Name × List Lean.Syntax) → List (Lean.Name × List Lean.Syntax)
  | (k, b) :: r => (k, x :: b) :: r
  | [] => []
def qs (a : List Lean.Syntax) (l : List (Lean.Name × List Lean.Syntax)) (w : String) : List (Lean.Name × List Lean.Syntax) :=
  match w.toList with
  | '(' :: r => (qm r, []) :: l
  | [')'] => match l with
    | (`q, b) :: r => qp (qn (qm ".tacticSeq".toList) [qn (qm ".tacticSeq1Indented".toList) [qn (qm ['n']) b.reverse]]) r
    | (k, b) :: r => qp (qn k b.reverse) r
    | [] => []
  | '\'' :: r => qp (.atom .none (String.ofList r)) l
  | '#' :: r => qp (a.getD (String.ofList r).length .missing) l
  | r => qp (Lean.mkIdent (qm r)) l
def qw (t : String) : List String := t.splitOn " "
def qg (a : List Lean.Syntax) (t : String) : Lean.Syntax := match (qw (("^ (g '| (q (.exact 'exact ;% (:byTactic 'by (q (.assumption 'assumption ) ) );$ (:syntheticHole '? '_ );& (g '| (q (.withReducible 'with_reducible (q (.refine 'refine (:app ;@ (.omega 'omega (.optConfig (n ) ) );! ) ) ) );~ ) ) )".splitOn ";").foldl (fun t p => match qw p with
  | x :: r => t.replace x (" ".intercalate r)
  | _ => t) t)).foldl (qs a) [(`null, [])] with
  | (_, x :: _) :: _ => x
  | _ => .missing
def qf (l : List Lean.Syntax) : Lean.MacroM Lean.Syntax := return qg [qn (qm ['n']) (l.map fun t => qg [t] "(g '| # )")] "(.first 'first # )"
def qz : Lean.MacroM Lean.Syntax := throw .unsupportedSyntax
def qa (s : Lean.Syntax) (l : String) : Lean.Syntax := l.toList.foldl (fun s i => s.getArg (i.toNat - 48)) s
def qN (s : Lean.Syntax) (l : String) : Nat := (qa s l).getNumArgs
def qK (s : Lean.Syntax) (l : String) : String := match qa s l with
  | .node _ k _ => k.toString
  | .ident _ _ n _ => n.toString
  | _ => ""
def qb (s : Lean.Syntax) (t : String) : Lean.MacroM Lean.Syntax := if s.getArgs.toList.drop 1 |>.all fun x => qN x "" == 0 || (qK x "0" == "null" && qN x "0" == 0) then return qg [] t else qz
def qi (s : Lean.Syntax) : Lean.MacroM Lean.Syntax := match qK s "1" with
  | "Lean.Parser.Term.anonymousCtor" =>
    let es := (qa s "11").getSepArgs.toList
    let n := es.length - 1
    qf ((List.range (min n 8)).map (fun m => qg [s.setArg 1 (qg [Lean.mkIdent (.str `Mine ("ix" ++ "".pushn 'E' (m + 1) ++ "".pushn 'A' (n - 1 - m))), qn (qm ['n']) es] "(:app # #x )")] "(q # )") ++ [qg [s.setArg 1 (qg [qa s "1"] "(:paren (:hygienicLParen '( (hygieneInfo ? ) ) # ') )")] "(q # )"])
  | _ => qz
def qo (s : Lean.Syntax) : Lean.MacroM Lean.Syntax :=
  let es := (qa s "10001").getSepArgs.toList
  let n := es.length - 1
  let e := qa s "310"
  if qK s "1000" == "Lean.Parser.Tactic.rcasesPat.tuple" && qN s "100" == 1 && qN s "2" == 0 && qN s "3" == 2 && es.length != 1 && es.all fun x => qN x "00" == 1 && qN x "1" == 0 && qK x "000" != "Lean.Parser.Tactic.rcasesPat.clear" then
    let b := if (qK e "").startsWith "q'" then qK e "" else "q'"
    let ps := es.zipIdx.map fun (x, i) => let v := Lean.mkIdent (b ++ toString i).toName; match qK x "000" with
      | "Lean.Parser.Tactic.rcasesPat.ignore" => (qg [] "(:hole '_ )", [])
      | "Lean.Parser.Tactic.rcasesPat.one" => if qK x "0000" == "rfl" then (v, [qg [] "'; ", qg [v] "(.subst 'subst (n # ) )"]) else (qa x "0000", [])
      | _ => (v, [qg [] "';", ((s.setArg 1 (qn (qm ['n']) [qa x "0"])).setArg 3 (qg [v] "(n ':= (n # ) )"))])
    let c := if e.isIdent then qg [e] "(.tacticTry_ 'try (q (.clear 'clear (n # !" else qg [] "(.skip 'skip )"
    let sh := (List.range (min es.length 9)).map fun m => "".pushn 'E' m ++ "".pushn 'A' (n - m)
    let sh := if n < 6 then sh ++ (List.range n).foldl (fun l _ => l.map (· ++ "A") ++ l.map (· ++ "E")) [""] else sh
    qf (sh.map (fun x => qg [qn (qm ".tacticSeq1Indented".toList) [qn (qm ['n']) ([qg [Lean.mkIdent (.str `Mine ("x" ++ x)), e] "(.refine 'refine (:app # (n #x $ ~", qg [] "';", c, qg [] "';", qg [qn (qm ['n']) (ps.map (·.1))] "(.intro 'intro # )"] ++ (ps.map (·.2)).flatten)]] "(.tacticSeq # )") ++ [qg [e, qa s "10"] "(q (.rcases 'rcases (n (.elimTarget (n ) # ) ) (n 'with (.rcasesPatLo #x (n ! )"])
  else qz
def qr (s : Lean.Syntax) : Lean.MacroM Lean.Syntax :=
  match (qa s "21").getArgs.toList with
  | r :: t => if (r.find? (·.isOfKind `Lean.Parser.Term.syntheticHole)).isNone && qN s "3" == 0 && qN s "10" == 0 then
      return qg [Lean.mkIdent (if qN r "0" == 0 then `Mine.rwR else `Mine.rwL), qa r "1", r, if t.isEmpty then qg [] "(.tacticTry_ 'try (q (.withReducible 'with_reducible (q (.tacticRfl 'rfl ! )" else s.setArg 2 ((qa s "2").setArg 1 (qn (qm ['n']) (t.drop 1)))] "(.paren '( (q (.first 'first (n (g '| (q (.refine 'refine (:app # (n #x $ ! ) (g '| (q (.rewriteSeq 'rewrite (.optConfig (n ) ) (.rwRuleSeq '[ (n #xx ) '] ) (n ! ) ) '; #xxx ) ') )"
    else qz
  | [] => qz
def qc (s : Lean.Syntax) : Lean.MacroM Lean.Syntax := if qN s "2" == 0 && qN s "1" == 1 then
    if qN s "3" == 0 then if (qa s "101").isIdent && qN s "100" == 0 then return qg [qa s "101"] "(.first 'first (n (g '| (q (.withReducible 'with_reducible (q (.exact 'exact (:app Mine.no (n # ! ~ (g '| (q (.withReducible 'with_reducible (q (.exact 'exact (:app Mine.noB (n # ! ~ (g '| (q (.withReducible 'with_reducible (q (.exact 'exact (:app Mine.noB' (n # ! ~ &Mine.injV (n # (:fun 'fun (:basicFun (n e1 e2 ) (n ) '=> $ ! ~ '; (.clear 'clear (n # ) ) '; (.subst 'subst (n e1 ) ) '; (.subst 'subst (n e2 ! &Mine.injP (n # (:fun 'fun (:basicFun (n e1 e2 ) (n ) '=> $ ! ~ '; (.clear 'clear (n # ) ) '; (.subst 'subst (n e1 ) ) '; (.subst 'subst (n e2 ! &Mine.injS (n # (:fun 'fun (:basicFun (n e1 ) (n ) '=> $ ! ~ '; (.clear 'clear (n # ) ) '; (.subst 'subst (n e1 ! (g '| (q (.cases 'cases (n (.elimTarget (n ) (:paren (:hygienicLParen '( (hygieneInfo ? ) ) # '! (n ) (n ! ) )" else qz
    else match (qw "none Option some Option nil List cons List true Bool false Bool int MV ref MV str MV bool MV bi MV tup MObj list MObj frame MObj dict MObj cell MObj itList MObj v Out b Out u Out nx Out vs Out").dropWhile (· != qK s "30200011") with
    | _ :: t :: _ => return qg [qa s "1", Lean.mkIdent (t ++ ".casesOn").toName, qa s "3"] "(.induction 'induction # (n 'using #x ) (n ) #xx )"
    | _ => qz
  else qz
end Mine
local macro_rules (kind := Lean.Parser.Tactic.omega) | s => Mine.qb s "(.first 'first (n (g '| (q (.withReducible 'with_reducible (q (.first 'first (n (g '| (q (.assumption 'assumption ~ ^(:app Mine.ne_add (n rfl ! ) ^(:app Mine.ne_add0 (n rfl ! ) ^(:app Mine.ne_add0' (n rfl ! ) ^List.nodup_nil ~ ^List.not_mem_nil ~ ^Mine.nil_all ~ ^List.mem_cons_self ~ ^Mine.m2 ~ ^Mine.m3 ~ ^Mine.m4 ~ ^(:app Mine.lt_add (n % rfl ! ) ^(:app Mine.lt_add0 (n % rfl ! ) ^(:app Mine.le_add (n % rfl ! ) ^(:app Mine.le_add0 (n % ! ) ^(:app Nat.lt_succ_self (n (:hole '_ ! ) ) ^(:app Nat.le_succ (n (:hole '_ ! ) ) ^(:app Nat.ne_of_lt (n % ! ) ^(:app Nat.ne_of_gt (n % ! ) ^(:app Nat.lt_of_succ_lt (n % ! ) ^(:app Nat.lt_succ_of_lt (n % ! ) ^(:app Nat.le_of_succ_le (n % ! ) ^(:app Nat.le_of_lt (n % ! ) ^(:app Mine.ne_lt_add (n % rfl ! ) ^(:app Mine.ne_lt_add0 (n % rfl ! ! ~ (g '| (q (.«tactic_<;>_» (.paren '( (q (.withReducible 'with_reducible (q (.refine 'refine (:app Mine.ndc (n $ $ ! ) ) ') ) '<;> @ ~ &Mine.nm1 (n $ ! ) '; @ ) ) (g '| (q (.«tactic_<;>_» (.paren '( (q (.withReducible 'with_reducible (q (.refine 'refine (:app Mine.nmc (n $ $ ! ) ) ') ) '<;> @ ~ (g '| (q (.«tactic_<;>_» (.paren '( (q (.withReducible 'with_reducible (q (.refine 'refine (:app Mine.cons_all (n $ $ ! ) ) ') ) '<;> @ ~ &Or.inl (n $ ! ) '; (.withReducible 'with_reducible (q (.first 'first (n ^List.mem_cons_self ~ ^Mine.m2 ~ ^Mine.m3 ~ ^Mine.m4 ! ! ) (g '| (q (.lia 'lia (.optConfig (n ! ) (g '| (q (.omega 'omega (.optConfig (n (.configItem (.valConfigItem '( splitDisjunctions ':= true '! ! &Or.inr (n $ ! ) '; @ !"
local macro_rules (kind := Lean.Parser.Tactic.simp) | s => Mine.qb s "(.first 'first (n (g '| (q (.withReducible 'with_reducible (q (.first 'first (n ^List.mem_cons_self ~ ^Mine.m2 ~ ^Mine.m3 ~ ^List.not_mem_nil ~ ^Mine.nil_all ! ! ) (g '| (q (.«tactic_<;>_» (.paren '( (q (.withReducible 'with_reducible (q (.refine 'refine (:app Mine.cons_all (n $ $ ! ) ) ') ) '<;> (.simp 'simp (.optConfig (n ) ) (n ) (n ) (n ) (n ~ '; (.done 'done ~ &Or.inl (n $ ! ) '; (.simp 'simp (.optConfig (n ) ) (n ) (n ) (n ) (n ) ) '; (.done 'done ~ (g '| (q (.simp 'simp (.optConfig (n (.configItem (.valConfigItem '( maxSteps ':= (num '100000 ) '! ) (n ) (n ) (n ) (n ! ) )"
local macro_rules (kind := Lean.Parser.Tactic.cases) | s => Mine.qc s
local macro_rules (kind := Lean.Parser.Tactic.show) | s => return Mine.qg [Mine.qa s "1"] "(.first 'first (n (g '| (q (.refine 'refine (:typeAscription (:hygienicLParen '( (hygieneInfo ? ) ) $ ': (n # ) '! ) (g '| (q (.change 'change # (n ! ) )"
local macro_rules (kind := Lean.Parser.Tactic.rwSeq) | s => Mine.qr s
local macro_rules (kind := Lean.Parser.Tactic.refine) | s => Mine.qi s
local macro_rules (kind := Lean.Parser.Tactic.exact) | s => Mine.qi s
local macro_rules (kind := Lean.Parser.Tactic.obtain) | s => Mine.qo s
local macro_rules (kind := «term∅») | s => return Mine.qg [] "(:byTactic 'by (q (tacticKernel_rfl 'kernel_rfl ~"

set_option backward.match.sparseCases false
namespace Mine
abbrev W00:=@Nat.lt_of_lt_of_le
abbrev W01:=@Nat.le_trans
abbrev W02:=@lt_succ_self
abbrev W03:=@Nat.le_succ
abbrev W04:=@Nat.le_refl
abbrev W05:=@ne_of_lt
abbrev W06:=@Nat.le_of_ble_eq_true
abbrev W07:=@Nat.le_add_right
abbrev W08:=@lt_succ_of_lt
abbrev W09:=@eq_of_beq_eq_true
abbrev W0a:=@Nat.ne_of_gt
abbrev W0b:=@Nat.le_of_eq
abbrev W0c:=@Nat.lt_of_succ_lt_succ
abbrev W0d:=@List.mem_cons_self
abbrev W0e:=@List.mem_cons_of_mem
abbrev W0f:=@map_congr_left
abbrev W0g:=@Option.some.inj
theorem W0h {a b:Bool}(h:(a&&b)=true):a=true∧b=true:=Bool.and_eq_true_iff.mp h
theorem W0i {α:Type u}{a b:α}{l:List α}(h:a∈b::l):a=b∨a∈l:=mem_cons.mp h
abbrev W0j:=@wpAny_bind
abbrev W0k:=@wpAny_pure
abbrev W0l:=@wpAny_standAt
theorem W0m {a b:Nat}(h:a≤b):¬b<a:=not_lt.mpr h
section
variable {G:Prop}
theorem xA (h:A∧B)(k:A→B→G):G:=h.elim k
theorem xE {A:α0→Prop}(h:∃ a,A a)(k:∀ a,A a→G):G:=h.elim k
theorem xAA (h:A∧B∧C)(k:A→B→C→G):G:=xA h fun a h=>xA h (k a)
theorem xAE {B:α0→Prop}(h:A∧∃ a,B a)(k:A→∀ a,B a→G):G:=xA h fun a h=>xE h (k a)
theorem xEA {A B:α0→Prop}(h:∃ a,A a∧B a)(k:∀ a,A a→B a→G):G:=xE h fun a h=>xA h (k a)
theorem xEE {A:α0→α1→Prop}(h:∃ a,∃ b,A a b)(k:∀ a,∀ b,A a b→G):G:=xE h fun a h=>xE h (k a)
theorem xAAA (h:A∧B∧C∧D)(k:A→B→C→D→G):G:=xA h fun a h=>xAA h (k a)
theorem xAAE {C:α0→Prop}(h:A∧B∧∃ a,C a)(k:A→B→∀ a,C a→G):G:=xA h fun a h=>xAE h (k a)
theorem xAEA {B C:α0→Prop}(h:A∧∃ a,B a∧C a)(k:A→∀ a,B a→C a→G):G:=xA h fun a h=>xEA h (k a)
theorem xAEE {B:α0→α1→Prop}(h:A∧∃ a,∃ b,B a b)(k:A→∀ a,∀ b,B a b→G):G:=xA h fun a h=>xEE h (k a)
theorem xEAA {A B C:α0→Prop}(h:∃ a,A a∧B a∧C a)(k:∀ a,A a→B a→C a→G):G:=xE h fun a h=>xAA h (k a)
theorem xEEA {A B:α0→α1→Prop}(h:∃ a,∃ b,A a b∧B a b)(k:∀ a,∀ b,A a b→B a b→G):G:=xE h fun a h=>xEA h (k a)
theorem xEEE {A:α0→α1→α2→Prop}(h:∃ a,∃ b,∃ c,A a b c)(k:∀ a,∀ b,∀ c,A a b c→G):G:=xE h fun a h=>xEE h (k a)
theorem xAAAA (h:A∧B∧C∧D∧E)(k:A→B→C→D→E→G):G:=xA h fun a h=>xAAA h (k a)
theorem xAAEA {C D:α0→Prop}(h:A∧B∧∃ a,C a∧D a)(k:A→B→∀ a,C a→D a→G):G:=xA h fun a h=>xAEA h (k a)
theorem xAAEE {C:α0→α1→Prop}(h:A∧B∧∃ a,∃ b,C a b)(k:A→B→∀ a,∀ b,C a b→G):G:=xA h fun a h=>xAEE h (k a)
theorem xAEAA {B C D:α0→Prop}(h:A∧∃ a,B a∧C a∧D a)(k:A→∀ a,B a→C a→D a→G):G:=xA h fun a h=>xEAA h (k a)
theorem xAEEA {B C:α0→α1→Prop}(h:A∧∃ a,∃ b,B a b∧C a b)(k:A→∀ a,∀ b,B a b→C a b→G):G:=xA h fun a h=>xEEA h (k a)
theorem xAEEE {B:α0→α1→α2→Prop}(h:A∧∃ a,∃ b,∃ c,B a b c)(k:A→∀ a,∀ b,∀ c,B a b c→G):G:=xA h fun a h=>xEEE h (k a)
theorem xEAAA {A B C D:α0→Prop}(h:∃ a,A a∧B a∧C a∧D a)(k:∀ a,A a→B a→C a→D a→G):G:=xE h fun a h=>xAAA h (k a)
theorem xEAAE {A B:α0→Prop}{C:α0→α1→Prop}(h:∃ a,A a∧B a∧∃ b,C a b)(k:∀ a,A a→B a→∀ b,C a b→G):G:=xE h fun a h=>xAAE h (k a)
theorem xEAEA {A:α0→Prop}{B C:α0→α1→Prop}(h:∃ a,A a∧∃ b,B a b∧C a b)(k:∀ a,A a→∀ b,B a b→C a b→G):G:=xE h fun a h=>xAEA h (k a)
theorem xEEAA {A B C:α0→α1→Prop}(h:∃ a,∃ b,A a b∧B a b∧C a b)(k:∀ a,∀ b,A a b→B a b→C a b→G):G:=xE h fun a h=>xEAA h (k a)
theorem xEEEA {A B:α0→α1→α2→Prop}(h:∃ a,∃ b,∃ c,A a b c∧B a b c)(k:∀ a,∀ b,∀ c,A a b c→B a b c→G):G:=xE h fun a h=>xEEA h (k a)
theorem xEEEE {A:α0→α1→α2→α3→Prop}(h:∃ a,∃ b,∃ c,∃ d,A a b c d)(k:∀ a,∀ b,∀ c,∀ d,A a b c d→G):G:=xE h fun a h=>xEEE h (k a)
theorem xAAAAA (h:A∧B∧C∧D∧E∧F)(k:A→B→C→D→E→F→G):G:=xA h fun a h=>xAAAA h (k a)
theorem xAAAEA {D E:α0→Prop}(h:A∧B∧C∧∃ a,D a∧E a)(k:A→B→C→∀ a,D a→E a→G):G:=xA h fun a h=>xAAEA h (k a)
theorem xAAAEE {D:α0→α1→Prop}(h:A∧B∧C∧∃ a,∃ b,D a b)(k:A→B→C→∀ a,∀ b,D a b→G):G:=xA h fun a h=>xAAEE h (k a)
theorem xAEEAA {B C D:α0→α1→Prop}(h:A∧∃ a,∃ b,B a b∧C a b∧D a b)(k:A→∀ a,∀ b,B a b→C a b→D a b→G):G:=xA h fun a h=>xEEAA h (k a)
theorem xAEEEA {B C:α0→α1→α2→Prop}(h:A∧∃ a,∃ b,∃ c,B a b c∧C a b c)(k:A→∀ a,∀ b,∀ c,B a b c→C a b c→G):G:=xA h fun a h=>xEEEA h (k a)
theorem xEAAAA {A B C D E:α0→Prop}(h:∃ a,A a∧B a∧C a∧D a∧E a)(k:∀ a,A a→B a→C a→D a→E a→G):G:=xE h fun a h=>xAAAA h (k a)
theorem xEAEAA {A:α0→Prop}{B C D:α0→α1→Prop}(h:∃ a,A a∧∃ b,B a b∧C a b∧D a b)(k:∀ a,A a→∀ b,B a b→C a b→D a b→G):G:=xE h fun a h=>xAEAA h (k a)
theorem xEEAAA {A B C D:α0→α1→Prop}(h:∃ a,∃ b,A a b∧B a b∧C a b∧D a b)(k:∀ a,∀ b,A a b→B a b→C a b→D a b→G):G:=xE h fun a h=>xEAAA h (k a)
theorem xEEEAA {A B C:α0→α1→α2→Prop}(h:∃ a,∃ b,∃ c,A a b c∧B a b c∧C a b c)(k:∀ a,∀ b,∀ c,A a b c→B a b c→C a b c→G):G:=xE h fun a h=>xEEAA h (k a)
theorem xEEEEA {A B:α0→α1→α2→α3→Prop}(h:∃ a,∃ b,∃ c,∃ d,A a b c d∧B a b c d)(k:∀ a,∀ b,∀ c,∀ d,A a b c d→B a b c d→G):G:=xE h fun a h=>xEEEA h (k a)
theorem xEEEEE {A:α0→α1→α2→α3→α4→Prop}(h:∃ a,∃ b,∃ c,∃ d,∃ e,A a b c d e)(k:∀ a,∀ b,∀ c,∀ d,∀ e,A a b c d e→G):G:=xE h fun a h=>xEEEE h (k a)
theorem xAAAAAA (h:A∧B∧C∧D∧E∧F∧H)(k:A→B→C→D→E→F→H→G):G:=xA h fun a h=>xAAAAA h (k a)
theorem xAAAAEE {E:α0→α1→Prop}(h:A∧B∧C∧D∧∃ a,∃ b,E a b)(k:A→B→C→D→∀ a,∀ b,E a b→G):G:=xA h fun a h=>xAAAEE h (k a)
theorem xAAEEAA {C D E:α0→α1→Prop}(h:A∧B∧∃ a,∃ b,C a b∧D a b∧E a b)(k:A→B→∀ a,∀ b,C a b→D a b→E a b→G):G:=xA h fun a h=>xAEEAA h (k a)
theorem xEAAAAA {A B C D E F:α0→Prop}(h:∃ a,A a∧B a∧C a∧D a∧E a∧F a)(k:∀ a,A a→B a→C a→D a→E a→F a→G):G:=xE h fun a h=>xAAAAA h (k a)
theorem xEAAAEA {A B C:α0→Prop}{D E:α0→α1→Prop}(h:∃ a,A a∧B a∧C a∧∃ b,D a b∧E a b)(k:∀ a,A a→B a→C a→∀ b,D a b→E a b→G):G:=xE h fun a h=>xAAAEA h (k a)
theorem xEEAAAA {A B C D E:α0→α1→Prop}(h:∃ a,∃ b,A a b∧B a b∧C a b∧D a b∧E a b)(k:∀ a,∀ b,A a b→B a b→C a b→D a b→E a b→G):G:=xE h fun a h=>xEAAAA h (k a)
theorem xEEEAAA {A B C D:α0→α1→α2→Prop}(h:∃ a,∃ b,∃ c,A a b c∧B a b c∧C a b c∧D a b c)(k:∀ a,∀ b,∀ c,A a b c→B a b c→C a b c→D a b c→G):G:=xE h fun a h=>xEEAAA h (k a)
theorem xEEEEAA {A B C:α0→α1→α2→α3→Prop}(h:∃ a,∃ b,∃ c,∃ d,A a b c d∧B a b c d∧C a b c d)(k:∀ a,∀ b,∀ c,∀ d,A a b c d→B a b c d→C a b c d→G):G:=xE h fun a h=>xEEEAA h (k a)
theorem xEEEEEE {A:α0→α1→α2→α3→α4→α5→Prop}(h:∃ a,∃ b,∃ c,∃ d,∃ e,∃ f,A a b c d e f)(k:∀ a,∀ b,∀ c,∀ d,∀ e,∀ f,A a b c d e f→G):G:=xE h fun a h=>xEEEEE h (k a)
theorem xAAAAAAA (h:A∧B∧C∧D∧E∧F∧H∧I)(k:A→B→C→D→E→F→H→I→G):G:=xA h fun a h=>xAAAAAA h (k a)
theorem xAAAAAEE {F:α0→α1→Prop}(h:A∧B∧C∧D∧E∧∃ a,∃ b,F a b)(k:A→B→C→D→E→∀ a,∀ b,F a b→G):G:=xA h fun a h=>xAAAAEE h (k a)
theorem xAAAEEAA {D E F:α0→α1→Prop}(h:A∧B∧C∧∃ a,∃ b,D a b∧E a b∧F a b)(k:A→B→C→∀ a,∀ b,D a b→E a b→F a b→G):G:=xA h fun a h=>xAAEEAA h (k a)
theorem xEAAAAAA {A B C D E F H:α0→Prop}(h:∃ a,A a∧B a∧C a∧D a∧E a∧F a∧H a)(k:∀ a,A a→B a→C a→D a→E a→F a→H a→G):G:=xE h fun a h=>xAAAAAA h (k a)
theorem xEEAAAAA {A B C D E F:α0→α1→Prop}(h:∃ a,∃ b,A a b∧B a b∧C a b∧D a b∧E a b∧F a b)(k:∀ a,∀ b,A a b→B a b→C a b→D a b→E a b→F a b→G):G:=xE h fun a h=>xEAAAAA h (k a)
theorem xEEAAAEA {A B C:α0→α1→Prop}{D E:α0→α1→α2→Prop}(h:∃ a,∃ b,A a b∧B a b∧C a b∧∃ c,D a b c∧E a b c)(k:∀ a,∀ b,A a b→B a b→C a b→∀ c,D a b c→E a b c→G):G:=xE h fun a h=>xEAAAEA h (k a)
theorem xEEEAAAA {A B C D E:α0→α1→α2→Prop}(h:∃ a,∃ b,∃ c,A a b c∧B a b c∧C a b c∧D a b c∧E a b c)(k:∀ a,∀ b,∀ c,A a b c→B a b c→C a b c→D a b c→E a b c→G):G:=xE h fun a h=>xEEAAAA h (k a)
theorem xEEEEAAA {A B C D:α0→α1→α2→α3→Prop}(h:∃ a,∃ b,∃ c,∃ d,A a b c d∧B a b c d∧C a b c d∧D a b c d)(k:∀ a,∀ b,∀ c,∀ d,A a b c d→B a b c d→C a b c d→D a b c d→G):G:=xE h fun a h=>xEEEAAA h (k a)
theorem xEEEEEAA {A B C:α0→α1→α2→α3→α4→Prop}(h:∃ a,∃ b,∃ c,∃ d,∃ e,A a b c d e∧B a b c d e∧C a b c d e)(k:∀ a,∀ b,∀ c,∀ d,∀ e,A a b c d e→B a b c d e→C a b c d e→G):G:=xE h fun a h=>xEEEEAA h (k a)
theorem xEEEEEEE {A:α0→α1→α2→α3→α4→α5→α6→Prop}(h:∃ a,∃ b,∃ c,∃ d,∃ e,∃ f,∃ i,A a b c d e f i)(k:∀ a,∀ b,∀ c,∀ d,∀ e,∀ f,∀ i,A a b c d e f i→G):G:=xE h fun a h=>xEEEEEE h (k a)
theorem xAAAAAAAA (h:A∧B∧C∧D∧E∧F∧H∧I∧J)(k:A→B→C→D→E→F→H→I→J→G):G:=xA h fun a h=>xAAAAAAA h (k a)
theorem xAAAAAAEE {H:α0→α1→Prop}(h:A∧B∧C∧D∧E∧F∧∃ a,∃ b,H a b)(k:A→B→C→D→E→F→∀ a,∀ b,H a b→G):G:=xA h fun a h=>xAAAAAEE h (k a)
theorem xAEEEAAAA {B C D E F:α0→α1→α2→Prop}(h:A∧∃ a,∃ b,∃ c,B a b c∧C a b c∧D a b c∧E a b c∧F a b c)(k:A→∀ a,∀ b,∀ c,B a b c→C a b c→D a b c→E a b c→F a b c→G):G:=xA h fun a h=>xEEEAAAA h (k a)
theorem xEAAAEEAA {A B C:α0→Prop}{D E F:α0→α1→α2→Prop}(h:∃ a,A a∧B a∧C a∧∃ b,∃ c,D a b c∧E a b c∧F a b c)(k:∀ a,A a→B a→C a→∀ b,∀ c,D a b c→E a b c→F a b c→G):G:=xE h fun a h=>xAAAEEAA h (k a)
theorem xEEAAAAAA {A B C D E F H:α0→α1→Prop}(h:∃ a,∃ b,A a b∧B a b∧C a b∧D a b∧E a b∧F a b∧H a b)(k:∀ a,∀ b,A a b→B a b→C a b→D a b→E a b→F a b→H a b→G):G:=xE h fun a h=>xEAAAAAA h (k a)
theorem xEEEAAAAA {A B C D E F:α0→α1→α2→Prop}(h:∃ a,∃ b,∃ c,A a b c∧B a b c∧C a b c∧D a b c∧E a b c∧F a b c)(k:∀ a,∀ b,∀ c,A a b c→B a b c→C a b c→D a b c→E a b c→F a b c→G):G:=xE h fun a h=>xEEAAAAA h (k a)
theorem xEEEAAAEA {A B C:α0→α1→α2→Prop}{D E:α0→α1→α2→α3→Prop}(h:∃ a,∃ b,∃ c,A a b c∧B a b c∧C a b c∧∃ d,D a b c d∧E a b c d)(k:∀ a,∀ b,∀ c,A a b c→B a b c→C a b c→∀ d,D a b c d→E a b c d→G):G:=xE h fun a h=>xEEAAAEA h (k a)
theorem xEEEEAAAA {A B C D E:α0→α1→α2→α3→Prop}(h:∃ a,∃ b,∃ c,∃ d,A a b c d∧B a b c d∧C a b c d∧D a b c d∧E a b c d)(k:∀ a,∀ b,∀ c,∀ d,A a b c d→B a b c d→C a b c d→D a b c d→E a b c d→G):G:=xE h fun a h=>xEEEAAAA h (k a)
theorem xEEEEEAAA {A B C D:α0→α1→α2→α3→α4→Prop}(h:∃ a,∃ b,∃ c,∃ d,∃ e,A a b c d e∧B a b c d e∧C a b c d e∧D a b c d e)(k:∀ a,∀ b,∀ c,∀ d,∀ e,A a b c d e→B a b c d e→C a b c d e→D a b c d e→G):G:=xE h fun a h=>xEEEEAAA h (k a)
theorem xEEEEEEAA {A B C:α0→α1→α2→α3→α4→α5→Prop}(h:∃ a,∃ b,∃ c,∃ d,∃ e,∃ f,A a b c d e f∧B a b c d e f∧C a b c d e f)(k:∀ a,∀ b,∀ c,∀ d,∀ e,∀ f,A a b c d e f→B a b c d e f→C a b c d e f→G):G:=xE h fun a h=>xEEEEEAA h (k a)
theorem xEEEEEEEE {A:α0→α1→α2→α3→α4→α5→α6→α7→Prop}(h:∃ a,∃ b,∃ c,∃ d,∃ e,∃ f,∃ i,∃ j,A a b c d e f i j)(k:∀ a,∀ b,∀ c,∀ d,∀ e,∀ f,∀ i,∀ j,A a b c d e f i j→G):G:=xE h fun a h=>xEEEEEEE h (k a)
@[elab_as_elim] theorem rwR {b:α} {motive:α→Prop} {a:α} (h:a=b) (m:motive b):motive a:=h▸m
@[elab_as_elim] theorem rwL {b:α} {motive:α→Prop} {a:α} (h:b=a) (m:motive b):motive a:=h▸m
theorem ixEA {A B:α0→Prop}(a:α0)(h0:A a)(h1:B a):∃ a,A a∧B a:=⟨a,h0,h1⟩
theorem ixEAA {A B C:α0→Prop}(a:α0)(h0:A a)(h1:B a)(h2:C a):∃ a,A a∧B a∧C a:=⟨a,h0,h1,h2⟩
theorem ixEAAA {A B C D:α0→Prop}(a:α0)(h0:A a)(h1:B a)(h2:C a)(h3:D a):∃ a,A a∧B a∧C a∧D a:=⟨a,h0,h1,h2,h3⟩
theorem ixEAAAA {A B C D E:α0→Prop}(a:α0)(h0:A a)(h1:B a)(h2:C a)(h3:D a)(h4:E a):∃ a,A a∧B a∧C a∧D a∧E a:=⟨a,h0,h1,h2,h3,h4⟩
theorem ixEAAAAA {A B C D E F:α0→Prop}(a:α0)(h0:A a)(h1:B a)(h2:C a)(h3:D a)(h4:E a)(h5:F a):∃ a,A a∧B a∧C a∧D a∧E a∧F a:=⟨a,h0,h1,h2,h3,h4,h5⟩
theorem ixEAAAAAA {A B C D E F H:α0→Prop}(a:α0)(h0:A a)(h1:B a)(h2:C a)(h3:D a)(h4:E a)(h5:F a)(h6:H a):∃ a,A a∧B a∧C a∧D a∧E a∧F a∧H a:=⟨a,h0,h1,h2,h3,h4,h5,h6⟩
theorem ixEE {A:α0→α1→Prop}(a:α0)(b:α1)(h0:A a b):∃ a,∃ b,A a b:=⟨a,b,h0⟩
theorem ixEEA {A B:α0→α1→Prop}(a:α0)(b:α1)(h0:A a b)(h1:B a b):∃ a,∃ b,A a b∧B a b:=⟨a,b,h0,h1⟩
theorem ixEEAA {A B C:α0→α1→Prop}(a:α0)(b:α1)(h0:A a b)(h1:B a b)(h2:C a b):∃ a,∃ b,A a b∧B a b∧C a b:=⟨a,b,h0,h1,h2⟩
theorem ixEEAAA {A B C D:α0→α1→Prop}(a:α0)(b:α1)(h0:A a b)(h1:B a b)(h2:C a b)(h3:D a b):∃ a,∃ b,A a b∧B a b∧C a b∧D a b:=⟨a,b,h0,h1,h2,h3⟩
theorem ixEEAAAA {A B C D E:α0→α1→Prop}(a:α0)(b:α1)(h0:A a b)(h1:B a b)(h2:C a b)(h3:D a b)(h4:E a b):∃ a,∃ b,A a b∧B a b∧C a b∧D a b∧E a b:=⟨a,b,h0,h1,h2,h3,h4⟩
theorem ixEEAAAAA {A B C D E F:α0→α1→Prop}(a:α0)(b:α1)(h0:A a b)(h1:B a b)(h2:C a b)(h3:D a b)(h4:E a b)(h5:F a b):∃ a,∃ b,A a b∧B a b∧C a b∧D a b∧E a b∧F a b:=⟨a,b,h0,h1,h2,h3,h4,h5⟩
theorem ixEEAAAAAA {A B C D E F H:α0→α1→Prop}(a:α0)(b:α1)(h0:A a b)(h1:B a b)(h2:C a b)(h3:D a b)(h4:E a b)(h5:F a b)(h6:H a b):∃ a,∃ b,A a b∧B a b∧C a b∧D a b∧E a b∧F a b∧H a b:=⟨a,b,h0,h1,h2,h3,h4,h5,h6⟩
theorem ixEEAAAAAAA {A B C D E F H I:α0→α1→Prop}(a:α0)(b:α1)(h0:A a b)(h1:B a b)(h2:C a b)(h3:D a b)(h4:E a b)(h5:F a b)(h6:H a b)(h7:I a b):∃ a,∃ b,A a b∧B a b∧C a b∧D a b∧E a b∧F a b∧H a b∧I a b:=⟨a,b,h0,h1,h2,h3,h4,h5,h6,h7⟩
theorem ixEEAAAAAAAA {A B C D E F H I J:α0→α1→Prop}(a:α0)(b:α1)(h0:A a b)(h1:B a b)(h2:C a b)(h3:D a b)(h4:E a b)(h5:F a b)(h6:H a b)(h7:I a b)(h8:J a b):∃ a,∃ b,A a b∧B a b∧C a b∧D a b∧E a b∧F a b∧H a b∧I a b∧J a b:=⟨a,b,h0,h1,h2,h3,h4,h5,h6,h7,h8⟩
theorem ixEEE {A:α0→α1→α2→Prop}(a:α0)(b:α1)(c:α2)(h0:A a b c):∃ a,∃ b,∃ c,A a b c:=⟨a,b,c,h0⟩
theorem ixEEEA {A B:α0→α1→α2→Prop}(a:α0)(b:α1)(c:α2)(h0:A a b c)(h1:B a b c):∃ a,∃ b,∃ c,A a b c∧B a b c:=⟨a,b,c,h0,h1⟩
theorem ixEEEAA {A B C:α0→α1→α2→Prop}(a:α0)(b:α1)(c:α2)(h0:A a b c)(h1:B a b c)(h2:C a b c):∃ a,∃ b,∃ c,A a b c∧B a b c∧C a b c:=⟨a,b,c,h0,h1,h2⟩
theorem ixEEEAAA {A B C D:α0→α1→α2→Prop}(a:α0)(b:α1)(c:α2)(h0:A a b c)(h1:B a b c)(h2:C a b c)(h3:D a b c):∃ a,∃ b,∃ c,A a b c∧B a b c∧C a b c∧D a b c:=⟨a,b,c,h0,h1,h2,h3⟩
theorem ixEEEAAAA {A B C D E:α0→α1→α2→Prop}(a:α0)(b:α1)(c:α2)(h0:A a b c)(h1:B a b c)(h2:C a b c)(h3:D a b c)(h4:E a b c):∃ a,∃ b,∃ c,A a b c∧B a b c∧C a b c∧D a b c∧E a b c:=⟨a,b,c,h0,h1,h2,h3,h4⟩
theorem ixEEEAAAAA {A B C D E F:α0→α1→α2→Prop}(a:α0)(b:α1)(c:α2)(h0:A a b c)(h1:B a b c)(h2:C a b c)(h3:D a b c)(h4:E a b c)(h5:F a b c):∃ a,∃ b,∃ c,A a b c∧B a b c∧C a b c∧D a b c∧E a b c∧F a b c:=⟨a,b,c,h0,h1,h2,h3,h4,h5⟩
theorem ixEEEAAAAAA {A B C D E F H:α0→α1→α2→Prop}(a:α0)(b:α1)(c:α2)(h0:A a b c)(h1:B a b c)(h2:C a b c)(h3:D a b c)(h4:E a b c)(h5:F a b c)(h6:H a b c):∃ a,∃ b,∃ c,A a b c∧B a b c∧C a b c∧D a b c∧E a b c∧F a b c∧H a b c:=⟨a,b,c,h0,h1,h2,h3,h4,h5,h6⟩
theorem ixEEEE {A:α0→α1→α2→α3→Prop}(a:α0)(b:α1)(c:α2)(d:α3)(h0:A a b c d):∃ a,∃ b,∃ c,∃ d,A a b c d:=⟨a,b,c,d,h0⟩
theorem ixEEEEA {A B:α0→α1→α2→α3→Prop}(a:α0)(b:α1)(c:α2)(d:α3)(h0:A a b c d)(h1:B a b c d):∃ a,∃ b,∃ c,∃ d,A a b c d∧B a b c d:=⟨a,b,c,d,h0,h1⟩
theorem ixEEEEAA {A B C:α0→α1→α2→α3→Prop}(a:α0)(b:α1)(c:α2)(d:α3)(h0:A a b c d)(h1:B a b c d)(h2:C a b c d):∃ a,∃ b,∃ c,∃ d,A a b c d∧B a b c d∧C a b c d:=⟨a,b,c,d,h0,h1,h2⟩
theorem ixEEEEAAA {A B C D:α0→α1→α2→α3→Prop}(a:α0)(b:α1)(c:α2)(d:α3)(h0:A a b c d)(h1:B a b c d)(h2:C a b c d)(h3:D a b c d):∃ a,∃ b,∃ c,∃ d,A a b c d∧B a b c d∧C a b c d∧D a b c d:=⟨a,b,c,d,h0,h1,h2,h3⟩
theorem ixEEEEAAAA {A B C D E:α0→α1→α2→α3→Prop}(a:α0)(b:α1)(c:α2)(d:α3)(h0:A a b c d)(h1:B a b c d)(h2:C a b c d)(h3:D a b c d)(h4:E a b c d):∃ a,∃ b,∃ c,∃ d,A a b c d∧B a b c d∧C a b c d∧D a b c d∧E a b c d:=⟨a,b,c,d,h0,h1,h2,h3,h4⟩
theorem xEEEEAAAAA {A B C D E F:α0→α1→α2→α3→Prop}(h:∃ a,∃ b,∃ c,∃ d,A a b c d∧B a b c d∧C a b c d∧D a b c d∧E a b c d∧F a b c d)(k:∀ a,∀ b,∀ c,∀ d,A a b c d→B a b c d→C a b c d→D a b c d→E a b c d→F a b c d→G):G:=xE h fun a h=>xEEEAAAAA h (k a)
theorem ixEEEEAAAAA {A B C D E F:α0→α1→α2→α3→Prop}(a:α0)(b:α1)(c:α2)(d:α3)(h0:A a b c d)(h1:B a b c d)(h2:C a b c d)(h3:D a b c d)(h4:E a b c d)(h5:F a b c d):∃ a,∃ b,∃ c,∃ d,A a b c d∧B a b c d∧C a b c d∧D a b c d∧E a b c d∧F a b c d:=⟨a,b,c,d,h0,h1,h2,h3,h4,h5⟩
theorem xEEEEEAAAA {A B C D E:α0→α1→α2→α3→α4→Prop}(h:∃ a,∃ b,∃ c,∃ d,∃ e,A a b c d e∧B a b c d e∧C a b c d e∧D a b c d e∧E a b c d e)(k:∀ a,∀ b,∀ c,∀ d,∀ e,A a b c d e→B a b c d e→C a b c d e→D a b c d e→E a b c d e→G):G:=xE h fun a h=>xEEEEAAAA h (k a)
theorem xEEEEEEAAAA {A B C D E:α0→α1→α2→α3→α4→α5→Prop}(h:∃ a,∃ b,∃ c,∃ d,∃ e,∃ f,A a b c d e f∧B a b c d e f∧C a b c d e f∧D a b c d e f∧E a b c d e f)(k:∀ a,∀ b,∀ c,∀ d,∀ e,∀ f,A a b c d e f→B a b c d e f→C a b c d e f→D a b c d e f→E a b c d e f→G):G:=xE h fun a h=>xEEEEEAAAA h (k a)
theorem ixEEEEEEAAAA {A B C D E:α0→α1→α2→α3→α4→α5→Prop}(a:α0)(b:α1)(c:α2)(d:α3)(e:α4)(f:α5)(h0:A a b c d e f)(h1:B a b c d e f)(h2:C a b c d e f)(h3:D a b c d e f)(h4:E a b c d e f):∃ a,∃ b,∃ c,∃ d,∃ e,∃ f,A a b c d e f∧B a b c d e f∧C a b c d e f∧D a b c d e f∧E a b c d e f:=⟨a,b,c,d,e,f,h0,h1,h2,h3,h4⟩
theorem xEEEEEEEAA {A B C:α0→α1→α2→α3→α4→α5→α6→Prop}(h:∃ a,∃ b,∃ c,∃ d,∃ e,∃ f,∃ g,A a b c d e f g∧B a b c d e f g∧C a b c d e f g)(k:∀ a,∀ b,∀ c,∀ d,∀ e,∀ f,∀ g,A a b c d e f g→B a b c d e f g→C a b c d e f g→G):G:=xE h fun a h=>xEEEEEEAA h (k a)
theorem ixEEEEEEEAA {A B C:α0→α1→α2→α3→α4→α5→α6→Prop}(a:α0)(b:α1)(c:α2)(d:α3)(e:α4)(f:α5)(g:α6)(h0:A a b c d e f g)(h1:B a b c d e f g)(h2:C a b c d e f g):∃ a,∃ b,∃ c,∃ d,∃ e,∃ f,∃ g,A a b c d e f g∧B a b c d e f g∧C a b c d e f g:=⟨a,b,c,d,e,f,g,h0,h1,h2⟩
theorem ixEEEEEEEAAAA {A B C D E:α0→α1→α2→α3→α4→α5→α6→Prop}(a:α0)(b:α1)(c:α2)(d:α3)(e:α4)(f:α5)(g:α6)(h0:A a b c d e f g)(h1:B a b c d e f g)(h2:C a b c d e f g)(h3:D a b c d e f g)(h4:E a b c d e f g):∃ a,∃ b,∃ c,∃ d,∃ e,∃ f,∃ g,A a b c d e f g∧B a b c d e f g∧C a b c d e f g∧D a b c d e f g∧E a b c d e f g:=⟨a,b,c,d,e,f,g,h0,h1,h2,h3,h4⟩
end
section
variable {α β:Type _}{G:Prop}{x y:α}{a b:α}{s s':β}{i j k l n m:Nat}{L:List Nat}{P:Nat→Prop}
theorem no (h:none=some x):G:=nomatch h
theorem noB (h:false=true):G:=nomatch h
theorem noB' (h:true=false):G:=nomatch h
theorem injS (h:some x=some y)(g:x=y→G):G:=g (W0g h)
theorem injP (h:some (a,s)=some (b,s'))(g:a=b→s=s'→G):G:=g (Prod.mk.inj (W0g h)).1 (Prod.mk.inj (W0g h)).2
theorem nm1 (h:i≠j):i∉[j]:=fun q=>h (mem_singleton.mp q)
theorem nmc (h:i≠j)(h':i∉L):i∉j::L:=fun q=>(W0i q).elim h h'
theorem nil_all:∀ x∈([]:List Nat),P x:=nofun
theorem cons_all (h:P i)(h':∀ x∈L,P x):∀ x∈i::L,P x:=fun x q=>(W0i q).elim (fun e=>e▸h) (h' x)
theorem lt_add (h:n+k≤m)(q:ble (Nat.succ i) k=true):n+i<m:=W00 (add_lt_add_left (W06 q) n) h
theorem lt_add0 (h:n+k≤m)(q:ble 1 k=true):n<m:=lt_add (i:=0) h q
theorem le_add (h:n+k≤m)(q:ble i k=true):n+i≤m:=W01 (Nat.add_le_add_left (W06 q) n) h
theorem le_add0 (h:n+k≤m):n≤m:=W01 (W07 n k) h
theorem ne_add (q:beq i j=false):n+i≠n+j:=fun e=>Nat.ne_of_beq_eq_false q (Nat.add_left_cancel e)
theorem ne_add0 (q:beq 0 j=false):n≠n+j:=ne_add (i:=0) q
theorem ne_lt_add {n k m i:Nat}(h:n+k≤m)(q:ble (Nat.succ i) k=true):n+i≠m:=W05 (lt_add h q)
theorem ne_lt_add0 {n k m:Nat}(h:n+k≤m)(q:ble 1 k=true):n≠m:=W05 (lt_add0 h q)
theorem mB {α:Type _}{G:Prop}{b:Bool}{X Y:Option α}{v:α}(h:(match b with | true=>X | false=>Y)=some v)(g1:b=true→X=some v→G)(g2:b=false→Y=some v→G):G:=by
 cases b using Bool.casesOn with
 | true=>exact g1 rfl h
 | false=>exact g2 rfl h
theorem mBB {α:Type _}{G:Prop}{a b:Bool}{X Y:Option α}{v:α}(h:(match a,b with | true,true=>X | _,_=>Y)=some v)(g1:a=true→b=true→X=some v→G)(g2:Y=some v→G):G:=by
 cases a using Bool.casesOn with
 | true=>cases b using Bool.casesOn with
  | true=>exact g1 rfl rfl h
  | false=>exact g2 h
 | false=>exact g2 h
theorem lt6 {P:Nat→Prop}(a:P 0)(b:P 1)(c:P 2)(d:P 3)(e:P 4)(f:P 5):∀ i,i<6→P i
 | 0,_=>a | 1,_=>b | 2,_=>c | 3,_=>d | 4,_=>e | 5,_=>f
 | _+6,h=>absurd h (W0m (Nat.le_add_left 6 _))
theorem lt4 {P:Nat→Prop}(a:P 0)(b:P 1)(c:P 2)(d:P 3)(i:Nat)(h:i<4):P i:=lt6 (P:=fun i=>i<4→P i) (fun u0=>a) (fun u0=>b) (fun u0=>c) (fun u0=>d) (fun h=>absurd h (lt_irrefl 4)) (fun h=>absurd h (W0m (W03 4))) i (W00 h (W07 4 2)) h
theorem m2 {α:Type _}{a b:α}{l:List α}:a∈b::a::l:=.tail _ W0d
theorem m3 {α:Type _}{a b c:α}{l:List α}:a∈b::c::a::l:=.tail _ m2
theorem m4 {α:Type _}{a b c d:α}{l:List α}:a∈b::c::d::a::l:=.tail _ m3
theorem Yq (q:beq i 0=false):n+i≠n:=ne_add (j:=0) q
noncomputable def QW {α:Type _}(F:Nat→α):Nat→List α
 | 0=>[]
 | n+1=>F n::QW F n
noncomputable def QX {α:Type _}(F:Nat→α):Nat→List α
 | 0=>[]
 | n+1=>F n::QX F n
theorem XN {α:Type _}{F H:Nat→α}:∀ {n:Nat},QW F n=QX H n→∀ i,i<n→F i=H i
 | 0,_,i,h=>absurd h (not_lt_zero i)
 | n+1,e,i,h=>by
  obtain ⟨e1,e2⟩:=List.cons.inj e;rcases Nat.lt_or_eq_of_le (Nat.le_of_lt_succ h) with h | rfl
  ·exact XN e2 i h
  ·exact e1
def QY {α:Type _}(F:Nat→Nat→α)(m n:Nat):List (List α):=QW (fun j=>QW (F j) n) m
def QZ {α:Type _}(F:Nat→Nat→α)(m n:Nat):List (List α):=QX (fun j=>QX (F j) n) m
theorem XO {α:Type _}{F H:Nat→Nat→α}{m n:Nat}(e:QY F m n=QZ H m n){j k:Nat}(hj:j<m)(hk:k<n):F j k=H j k:=XN (XN e j hj) k hk
def Zjs {α:Type _}(F:Nat→Nat→Nat→α)(l m n:Nat):List (List (List α)):=QW (fun i=>QY (F i) m n) l
def Zji {α:Type _}(F:Nat→Nat→Nat→α)(l m n:Nat):List (List (List α)):=QX (fun i=>QZ (F i) m n) l
theorem Z3j {α:Type _}{F H:Nat→Nat→Nat→α}{l m n:Nat}(e:Zjs F l m n=Zji H l m n){i j k:Nat}(hi:i<l)(hj:j<m)(hk:k<n):F i j k=H i j k:=XO (XN e i hi) hj hk
theorem ndc {α:Type _}{a:α}{L:List α}(h:a∉L)(h':L.Nodup):(a::L).Nodup:=nodup_cons.mpr ⟨h,h'⟩
end
section
variable {G:Prop}{α β:Type}{x:α}
theorem bC {γ:Type}{A B y:γ}(h:(match b with | true=>A | false=>B)=y)(g:b=true→A=y→G)(g':b=false→B=y→G):G:=by
 cases b with
 | true=>exact g rfl h
 | false=>exact g' rfl h
theorem bE {f:β→Option α}(h:o.bind f=some x)(g:∀ v,o=some v→f v=some x→G):G:=by
 cases o with
 | none=>exact no h
 | some v=>exact g v rfl h
theorem bT (h:(match b with | true=>X | false=>none)=some x)(g:b=true→X=some x→G):G:=by
 cases b with
 | true=>exact g rfl h
 | false=>exact no h
theorem bF (h:(match b with | true=>none | false=>X)=some x)(g:b=false→X=some x→G):G:=by
 cases b with
 | true=>exact no h
 | false=>exact g rfl h
theorem bF' (h:(match b with | false=>X | true=>none)=some x)(g:b=false→X=some x→G):G:=bF (X:=X) (by induction b using Bool.casesOn<;>exact h) g
theorem bT' (h:(match b with | false=>none | true=>X)=some x)(g:b=true→X=some x→G):G:=bT (X:=X) (by induction b using Bool.casesOn<;>exact h) g
theorem bTT (h:(match a,b with | true,true=>X | _,_=>none)=some x)(g:a=true→b=true→X=some x→G):G:=by
 cases a with
 | true=>cases b with
  | true=>exact g rfl rfl h
  | false=>exact no h
 | false=>exact no h
theorem bFF (h:(match a,b with | false,false=>X | _,_=>none)=some x)(g:a=false→b=false→X=some x→G):G:=by
 cases a with
 | true=>exact no h
 | false=>cases b with
  | true=>exact no h
  | false=>exact g rfl rfl h
end
end Mine
set_option backward.match.sparseCases true
namespace Mine
noncomputable def Zke (P:Params):BT :=
 let o:=(boot_heap P).objs
 let g (i:Nat):Obj:=o.getD i { cls:=.none }
 .node (g 0) (.node (g 1) (.node (g 3) (.node (g 7) .nil .nil) .nil) (.node (g 5) (.node (g 9) .nil .nil) .nil)) (.node (g 2) (.node (g 4) (.node (g 8) .nil .nil) .nil) (.node (g 6) (.node (g 10) .nil .nil) .nil))
def ZkX (w:World)(os:OsState):SharedT:=⟨Zke w.params,11,(boot_heap w.params).life,Array.mk [],boot_drawn,boot_toks,os⟩
theorem Z7O (w:World)(os:OsState):(ZkX w os).abs=⟨boot_heap w.params,Array.mk [],boot_drawn,boot_toks,os⟩:=∅
noncomputable abbrev pw:Program:=PySem.Challenge.pw_on0253_01
noncomputable abbrev ZlR:List Nat:=[0,2,3,5,6,7,8,9,11,12,13,14,15,17,18,19,20,21,22,23,24,25,27,28,29,30,31,32,33,34,36,38,39,40,41,42,43,45,46,47,48,49,50,52,53,54,55,56,57,59,61,63,65,66,67,68,69,70,71,72,73,74,75]
def qW:Program:=view pw ZlR
noncomputable def Xa:List Str:=["fraction","length","length_styles","Look","is_by_box"]
noncomputable def modsL:List Str:=importedModules pw.main.body
def XtL (s:Shared):Bool:=xlAt qW [] s&&recOk (PySem.Challenge.rw_on0253_01.row.records) s
theorem Z8Y {p q:Program}{loose:List Str}{Xt:Shared→Bool}{Yf:Shared→Prop}{N:Nat}{H₀:Params→Heap}{d₀:Drawn}{k₀ m₀:Nat}{ann:Option Value}{M:Nat}{B:World→OsState→SharedT}
  (open_:∀ w:World,(fencedOpening treeTable p w N).map (fun s=>(s.heap,s.gens,s.drawn,s.toks))=some (H₀ w.params,Array.mk [],d₀,k₀))
  (s1:∀ w:World,(H₀ w.params).isNs mainGlobals=true) (s2:∀ w:World,(H₀ w.params).objs.size=m₀) (s3:∀ w:World,(H₀ w.params).nsMap mainGlobals "__annotations__"=ann)
  (babs:∀ w os,(B w os).abs=⟨H₀ w.params,Array.mk [],d₀,k₀,os⟩) (le:ble M N=true)
  (run:∀ (w:World) (os:OsState),∃ s':SharedT,topRun treeTable p w m₀ ann M (B w os).abs (topStub p)=some s'.abs∧(staticsOk (importedModules p.main.body) (H₀ w.params) s'.abs.heap&&namesBound p s'.abs.heap&&gensDone s'.abs&&laidKept (H₀ w.params) s'.abs.heap)=true ∧
   openSeen q loose (importedModules p.main.body) Xt true s'.abs=openGood q loose∧Yf s'.abs):LeftO p q loose Xt Yf (fun u0=>True) N:=fun w=>by
 obtain ⟨⟨h,gs,d,k,os⟩,e,e'⟩:=map_eq_some_iff.mp (open_ w);obtain ⟨rfl,rfl,rfl,rfl⟩:h=H₀ w.params∧gs=Array.mk []∧d=d₀∧k=k₀:=by simpa using e'
 obtain ⟨s',hr,hk,hl,hy⟩:=run w os;have r:=topRun_mono (N - M) _ _ _ _ hr;rw [show M+(N - M)=N by have:=Nat.le_of_ble_eq_true le;omega,babs] at r;have t:topFrom treeTable p w N ⟨H₀ w.params,Array.mk [],d,k,os⟩=some s'.abs:=by
  unfold topFrom;dsimp only;rw [s1 w,s2 w,s3 w,r];show (match staticsOk (importedModules p.main.body) (H₀ w.params) s'.abs.heap&&namesBound p s'.abs.heap&&gensDone s'.abs&&laidKept (H₀ w.params) s'.abs.heap with | true=>_ | false=>_)=_;rw [hk]
 unfold openEnds;rw [e];show (topFrom treeTable p w N _).map _=_;rw [t];exact congrArg some (ext hl (eq_true hy))
def ZlP (w:World)(s:SharedT):Bool:=staticsOk (importedModules pw.main.body) (boot_heap w.params) s.abs.heap&&namesBound pw s.abs.heap&&gensDone s.abs&&laidKept (boot_heap w.params) s.abs.heap
theorem ZbE:∀ w:World,(fencedOpening treeTable pw w 8400).map (fun s=>(s.heap,s.gens,s.drawn,s.toks))=some (boot_heap w.params,Array.mk [],boot_drawn,boot_toks) :=
 boot_open ∅ ∅ (fun s=>∅)
theorem ZeN (w:World):(boot_heap w.params).objs.size=11:=∅
theorem Zev (w:World):(boot_heap w.params).nsMap mainGlobals "__annotations__"=some (.ref 6):=∅
theorem ZfB (w:World):(boot_heap w.params).isNs mainGlobals=true:=∅
noncomputable def XQ (s:SharedT)(o:Obj):SharedT:=match s with | ⟨T,n,l,g,d,t,e⟩=>⟨T.ins n o,n+1,l,g,d,t,e⟩
def ZmC (s:SharedT)(l:List Obj):SharedT:=l.foldl XQ s
noncomputable def ZmL (s:SharedT)(a:Nat)(f:Obj→Obj):SharedT:=match s with | ⟨T,n,l,g,d,t,e⟩=>⟨T.set a f,n,l,g,d,t,e⟩
noncomputable def J7 (s:SharedT)(k:Nat):SharedT:=match s with | ⟨T,n,l,g,d,t,e⟩=>⟨T,n,l,g,d,t+k,e⟩
noncomputable def JC {α:Type}(s:SharedT)(f:Nat→Nat→α):α:=match s with | ⟨_,n,_,_,_,t,_⟩=>f n t
noncomputable def ZmQ (w:World)(x:Str):Int:=if x.cps.isEmpty then 0 else reduceHash (w.params.strHash x.cps)
def Znc (w:World)(s:SharedT)(N:Nat)(x:Str)(v:Value):SharedT:=JC s fun u0 t=>J7 (ZmL s N (Obj.putName x (ZmQ w x) (.str x t) v)) 1
def JD (w:World)(s:SharedT)(N:Nat)(x:Str)(v:Value):SharedT:=JC s fun u0 t=>J7 (ZmL s N (Obj.mapDictKeys fun es=>es.push ⟨ZmQ w x,.str x t,v⟩)) 1
noncomputable def Q9 (l:List Value):Obj:={ cls:=.type "tuple",data:=.seq l.toArray }
noncomputable def Xb (c:Value)(l:List Value):Obj:={ cls:=c,data:=.fields l.toArray }
noncomputable def ZmE:List Str→Nat→List Value
 | [],_=>[]
 | x::r,t=>.str x t::ZmE r (t+1)
noncomputable def ZmO (s:SharedT)(a:Nat):List DictEntry:=match s.tree.get a with
 | some ⟨_,_,.dict es _,_⟩=>es.toList
 | _=>[]
def ZmZ (s:SharedT)(x:Str):Value:=match (nsNameIn x.cps.size x.cps.toList (ZmO s 3) false).1 with
 | some e=>e.val
 | none=>.type "Exception"
def ZmS (s:SharedT):Value:=match ZmO s 3 with
 | e::_=>e.val
 | []=>.none
def ZmR (s:SharedT):Expr→Value×SharedT
 | .Constant (.int i) _ _=>JC s fun u0 t=>(.int i t,J7 s 1)
 | .Constant (.str x) _ _=>JC s fun u0 t=>(.str x t,J7 s 1)
 | .Name x _=>(ZmZ s x,s)
 | _=>(.none,s)
noncomputable def ZmN (f:SharedT→Expr→Value×SharedT)(s:SharedT)(l:List Expr):List Value×SharedT:=l.foldl (fun r e=>match f r.2 e with | (v,s)=>(r.1++[v],s)) ([],s)
def ZmW (s:SharedT):Expr→Value×SharedT
 | .Tuple es _ _=>match ZmN ZmR s es with | (vs,s)=>JC s fun n u0=>(.ref n,XQ s (Q9 vs))
 | e=>ZmR s e
noncomputable def ZmP:Str:="/claim/cut.py"
def ZmM (nm qn:Str)(t ln ac fl n u:Nat)(b:Bool)(x y z:Value):Obj:=Xb (.type "code") [.str nm t,.str qn (t+1),.str ZmP (t+2),.int ln 0,.int ac 0,.int 0 0,.int 0 0,.int fl 0,.ref n,.bool b,.int 181 0,.ref (n+1),.none,x,y,z,.int u 0,.int ln 0,.str ZmP (u+1)]
noncomputable def ZmV (l c a:Nat):Obj→Obj:=Obj.mapFields fun vs=>vs++#[.int l 0,.int c 0,.ref a]
def Zn1 (w:World)(P N:Nat)(nm qn:Str)(ar:Arguments)(bd:List Stmt)(sc:Scope)(pos:Pos)(dv:Value)(s:SharedT):SharedT:=JC s fun n t =>
 let end_ (l:List Obj) (x y:Value) (m u:Nat):SharedT :=
  let s:=ZmC s (Q9 []::Xb .none []::l++[{ cls:=.none,data:=.func { name:=nm,qualname:=qn,params:=ar,body:=.stmts bd,scope:=sc,globals:=0,closure:=[],defaults:=.none,kwdefaults:=.none } },
   ZmM nm qn t pos.line ar.args.length 3 n u true x y (.ref m),
   { cls:=.type "function",data:=.func { name:=nm,qualname:=qn,params:=ar,body:=.stmts bd,scope:=sc,globals:=3,closure:=[],defaults:=dv,kwdefaults:=.none,pyModule:=ZmS s,code:=.ref (m+1) } }])
  JD w (J7 (ZmL s P (ZmV pos.line pos.col (m+1))) (u+2 - t)) N nm (.ref (m+2))
 match localNames ar sc (.stmts bd) with
 | some (a,b)=>end_ [Q9 (ZmE a (t+3)),Q9 (ZmE b (t+3+a.length))] (.ref (n+2)) (.ref (n+3)) (n+4) (t+3+(a.length+b.length))
 | none=>end_ [] .none .none (n+2) (t+3)
def ZmY (w:World)(P N:Nat)(q:Str)(s:SharedT):Stmt→SharedT
 | .FunctionDef nm ar bd _ _ _ sc _ _ pos=>match ZmN ZmW s ar.defaults with
  | ([],s)=>Zn1 w P N nm (q++nm) ar bd sc pos .none s
  | (vs,s)=>JC s fun n u0=>Zn1 w P N nm (q++nm) ar bd sc pos (.ref n) (XQ s (Q9 vs))
 | _=>s
def Znd (x:String)(v:Value):Obj:=Xb (.type "builtin_function_or_method") [.builtin x,v]
noncomputable def Zn0 (c l:Nat)(v:Value):Obj:={ cls:=.type "frame",slots:=#[some (.ref c),some (.ref 3),some (.ref l),none,some v,none,some (.ref 0)] }
noncomputable def ZmU (es:List DictEntry)(k:Nat):Obj:={ cls:=.type "dict",data:=.dict es.toArray k }
def Zne (x:Str)(t C:Nat)(u v:Value):Obj:=Xb (.type "getset_descriptor") [.str x t,.ref C,u,v]
def Zn8 (w:World)(s:SharedT):Stmt→SharedT
 | .ClassDef nm bs _ bd _ _ _ _ _ st pos=>JC s fun n t =>
  let B:=(ZmN ZmR s bs).1
  let s:=J7 (ZmC s [Q9 B,Znd "type.__prepare__" (.type "type"),ZmU [] 0,Q9 [],Xb .none [],ZmM nm nm (t+2) pos.line 0 0 (n+3) (t+5) false .none .none .none,Zn0 (n+5) (n+2) (ZmS s)]) 7
  let s:=ZmL s 12 (ZmV pos.line pos.col (n+5))
  let s:=JD w s (n+2) "__module__" (ZmS s)
  let s:=JD w (J7 s 1) (n+2) "__qualname__" (.str nm (t+8))
  let s:=JD w (J7 s 1) (n+2) "__firstlineno__" (.int pos.line (t+10))
  let s:=bd.foldl (ZmY w (n+4) (n+2) (nm++".")) s
  JC s fun m u =>
  let s:=XQ (J7 s st.length) (Q9 (ZmE st u))
  let s:=JD w s (n+2) "__static_attributes__" (.ref m)
  let k:=m+1
  let ex:List Value:=[.type "Exception",.type "BaseException",.type "object"]
  let s:=ZmC s [ZmU ((ZmO s (n+2)).filter fun e=>!e.key.isStrByCps 12 ("__qualname__":Str).cps.toList) 1,
   { cls:=.type "type",data:=.cls { name:=nm,bases:=(match B with | []=>[.type "object"] | _=>B),mro:=.ref (k+1)::(match B with | []=>[.type "object"] | [.type _]=>ex | _=>.ref 52::ex),ns:=k,qualname:=nm },slots:=#[(match B with | []=>none | _=>some (.ref n)),none,some (.str nm t),some (.str nm (t+8)),some (.builtin (match B with | []=>"object.__new__" | _=>"Exception.__new__")),some (.bool true)] }]
  let s:=match B with
   | []=>JC s fun u0 t=>let s:=XQ s (Zne "__dict__" t (k+1) (.builtin "function.__dict__") (.builtin "function.__dict__#set")); JD w (J7 s 1) k "__dict__" (.ref (k+2))
   | _=>s
  let s:=match B with
   | [.ref _]=>s
   | _=>JC s fun m t=>let s:=XQ s (Zne "__weakref__" t (k+1) (.builtin "ExceptionGroup.__weakref__") .none);JD w (J7 s 1) k "__weakref__" (.ref m)
  let s:=JD w s k "__doc__" .none
  let s:=match B with
   | [.type _]=>JD w (JD w s 2 "type.__subclasses__.Exception.0" (.int (k+1) 0)) 2 "type.__subclasses__.Exception.n" (.int 1 0)
   | [.ref a]=>ZmL s a (Obj.mapCls fun c=>{ c with subclasses:=c.subclasses++[.ref (k+1)] })
   | _=>s
  let s:=ZmC (J7 s 1) [Xb (.type "super") [.ref (k+1),.ref (k+1),.ref (k+1)],Znd "object.__init_subclass__" (.ref (k+1))]
  JD w s 3 nm (.ref (k+1))
 | _=>s
def Zng (w:World)(s:SharedT)(st:Stmt):SharedT:=match st with
 | .Assign [.Name x _] v _=>match ZmW s v with | (v,s)=>Znc w s 3 x v
 | .FunctionDef ..=>ZmY w 12 3 Str.empty s st
 | _=>Zn8 w s st
def Zn3 (s:SharedT):SharedT:=J7 (ZmC s [Q9 [],Xb .none [],ZmM "<module>" "<module>" 182 1 0 0 11 185 false .none .none .none,Zn0 13 3 (.str "__main__" 164)]) 6
noncomputable def Xc:List Stmt:=pw.main.body
noncomputable def XR:Env:={ scope:=pw.main.scope,locals:=3,globals:=3,cells:=[],code:=.ref 13,frame:=some 14 }
def J8:Code:=.body Xc XR
noncomputable def JW:Pos:=⟨0,0,0,0⟩
def ZmF (s:SharedT)(w:World)(a k:Nat):SharedT:=((Xc.drop a).take k).foldl (Zng w) s
def ZmK (w:World)(n:Nat)(s:SharedT)(a k:Nat)(p:Pos):=segRunT treeTable pw w 11 (some (.ref 6)) 1 n s (piecesOf ((Xc.drop a).take k) XR J8 p [topFrame JW])
def ZmX (w:World)(os:OsState):SharedT:=Zn3 (ZkX w os)
theorem Zna (w:World)(os:OsState):topGo treeTable pw w 11 (some (.ref 6)) 12 (ZkX w os).abs (topStub pw)=some ((ZmX w os).abs,⟨denote treeTable J8,J8,JW,[topFrame JW]⟩):=∅
theorem Znb (w:World)(os:OsState):segRun treeTable pw w 11 (some (.ref 6)) 1 1 (ZmX w os).abs (blockOf Xc XR J8 JW [topFrame JW])=some (.next,(ZmX w os).abs,J8,JW):=∅
def Zn6 (w:World)(os:OsState):SharedT:=ZmF (ZmX w os) w 0 15
theorem Znf (w:World)(os:OsState):ZmK w 1238 (ZmX w os) 0 15 JW=some (.next,Zn6 w os,J8,⟨30,0,30,13⟩):=∅
def Zn7 (w:World)(os:OsState):SharedT:=ZmF (Zn6 w os) w 15 32
theorem Znh (w:World)(os:OsState):ZmK w 1119 (Zn6 w os) 15 32 ⟨30,0,30,13⟩=some (.next,Zn7 w os,J8,⟨198,0,201,60⟩):=∅
def Zn9 (w:World)(os:OsState):SharedT:=ZmF (Zn7 w os) w 47 16
theorem Zni (w:World)(os:OsState):ZmK w 1160 (Zn7 w os) 47 16 ⟨198,0,201,60⟩=some (.next,Zn9 w os,J8,⟨321,0,321,8⟩):=∅
def XS (w:World)(os:OsState):SharedT:=ZmF (Zn9 w os) w 63 13
theorem Znj (w:World)(os:OsState):ZmK w 632 (Zn9 w os) 63 13 ⟨321,0,321,8⟩=some (.next,XS w os,J8,⟨419,0,441,82⟩):=∅
theorem ZmG {w:World}{T T':SharedT}{a k n N:Nat}{p p':Pos}{r:Shared}(h:ZmK w n T a k p=some (.next,T',J8,p'))(x:topRun treeTable pw w 11 (some (.ref 6)) N T'.abs (restOf (Xc.drop (a+k)) XR J8 p' [topFrame JW])=some r) :
  topRun treeTable pw w 11 (some (.ref 6)) (n+N) T.abs (restOf (Xc.drop a) XR J8 p [topFrame JW])=some r:=by
 have y:=piece_app (segRun_of h) x;rw [← drop_drop,List.take_append_drop] at y;exact y
theorem Zn4 (w:World)(s:Shared):topRun treeTable pw w 11 (some (.ref 6)) 2 s (restOf (Xc.drop (63+13)) XR J8 ⟨419,0,441,82⟩ [topFrame JW])=some s:=∅
theorem Zn2 (w:World)(os:OsState):topRun treeTable pw w 11 (some (.ref 6)) 4164 (ZkX w os).abs (topStub pw)=some (XS w os).abs:=by
 have h:=ZmG (Znf w os) (ZmG (Znh w os) (ZmG (Zni w os) (ZmG (Znj w os) (Zn4 w _))));rw [List.drop_zero] at h;exact go_top (Zna w os) (piece_block (Znb w os) h)
theorem Zn5 (w:World)(os:OsState):(XS w os).n=612:=∅
def Qa (w:World)(os:OsState):=openSeen qW Xa (importedModules pw.main.body) XtL true (XS w os).abs
theorem Zfe (w:World)(os:OsState):((Qa w os).1,(Qa w os).2.1,(Qa w os).2.2.2.1,(Qa w os).2.2.2.2.1)=(expectedOf qW,bltViewBooted,true,pinGoodD (drecsOf qW)):=∅
theorem Zfx (w:World)(os:OsState):((Qa w os).2.2.1,(Qa w os).2.2.2.2.2.1,(Qa w os).2.2.2.2.2.2.1,(Qa w os).2.2.2.2.2.2.2)=(true,plainGoodE qW (looseW qW Xa),plainGoodD qW Xa,(wideGood qW,clsGoodW qW Xa)):=∅
end Mine
set_option backward.match.sparseCases false
namespace Mine
inductive Bi where
 | len | abs | max | min | all
 | range | int | str | dict | enumerate
 | strip | split | lower | endswith | join | index | append | get | update
noncomputable def Bi.val:Bi→Value
 | .len=>.builtin "len" | .abs=>.builtin "abs" | .max=>.builtin "max" | .min=>.builtin "min" | .all=>.builtin "all"
 | .range=>.type "range" | .int=>.type "int" | .str=>.type "str" | .dict=>.type "dict" | .enumerate=>.type "enumerate"
 | .strip=>.builtin "str.strip" | .split=>.builtin "str.split" | .lower=>.builtin "str.lower" | .endswith=>.builtin "str.endswith" | .join=>.builtin "str.join" | .index=>.builtin "str.index"
 | .append=>.builtin "list.append" | .get=>.builtin "dict.get" | .update=>.builtin "dict.update"
inductive MV where
 | none
 | bool (b:Bool)
 | int (i:Int)
 | str (s:Str)
 | ref (l:Nat)
 | old (a:Nat)
 | bi (b:Bi)
structure Rho where
 a:Nat→Nat
 o:Nat→Nat
noncomputable def MV.Is (ρ:Rho)(n:Nat):MV→Value→Prop
 | .none,v=>v = .none
 | .bool b,v=>v = .bool b
 | .int i,v=>∃ t,v = .int i t
 | .str x,v=>∃ t,v = .str x t
 | .ref l,v=>l<n∧v = .ref (ρ.a l)
 | .old a,v=>v = .ref a
 | .bi b,v=>v=b.val
noncomputable def Are (ρ:Rho)(n:Nat):List MV→List Value→Prop
 | [],[]=>True
 | x::xs,v::vs=>x.Is ρ n v∧Are ρ n xs vs
 | _,_=>False
def Ag (ρ ρ':Rho)(n:Nat):Prop:=∀ i,i<n→ρ'.a i=ρ.a i∧ρ'.o i=ρ.o i
theorem Ag.refl (ρ:Rho)(n:Nat):Ag ρ ρ n:=fun u0 u0=>⟨rfl,rfl⟩
theorem Ag.trans (h:Ag ρ ρ' n)(h':Ag ρ' ρ'' n')(hn:n≤n'):Ag ρ ρ'' n :=
 fun i hi=>⟨(h' i (W00 hi hn)).1.trans (h i hi).1,(h' i (W00 hi hn)).2.trans (h i hi).2⟩
theorem MV.Is.mono {x:MV}(h:x.Is ρ n v)(g:Ag ρ ρ' n)(hn:n≤n'):x.Is ρ' n' v:=by
 cases x with
 | ref l=>exact ⟨W00 h.1 hn,by rw [(g l h.1).1]; exact h.2⟩
 | _=>exact h
theorem Are.mono (g:Ag ρ ρ' n)(hn:n≤n'):∀ {xs:List MV}{vs:List Value},Are ρ n xs vs→Are ρ' n' xs vs
 | [],[],_=>trivial
 | _::_,_::_,h=>⟨h.1.mono g hn,Are.mono g hn h.2⟩
 | [],_::_,h=>h.elim
 | _::_,[],h=>h.elim
theorem Are.length:∀ {xs:List MV}{vs:List Value},Are ρ n xs vs→vs.length=xs.length
 | [],[],_=>rfl
 | _::xs,_::vs,h=>by rw [length_cons,length_cons,Are.length h.2]
 | [],_::_,h=>h.elim
 | _::_,[],h=>h.elim
theorem Are.get:∀ {xs:List MV}{vs:List Value},Are ρ n xs vs→∀ {i:Nat}{x:MV},xs[i]?=some x→∃ v,vs[i]?=some v∧x.Is ρ n v
 | [],[],_,i,x,e=>by simp at e
 | y::xs,u::vs,h,0,x,e=>by
  simp at e;subst e;exact ⟨u,by simp,h.1⟩
 | y::xs,u::vs,h,i+1,x,e=>by
  simp at e;obtain ⟨v,h1,h2⟩:=Are.get h.2 e;exact ⟨v,by simpa using h1,h2⟩
 | [],_::_,h,_,_,_=>h.elim
 | _::_,[],h,_,_,_=>h.elim
theorem Are.append:∀ {xs ys:List MV}{vs us:List Value},Are ρ n xs vs→Are ρ n ys us→Are ρ n (xs++ys) (vs++us)
 | [],_,[],_,_,h=>h
 | _::_,_,_::_,_,h,h'=>⟨h.1,Are.append h.2 h'⟩
 | [],_,_::_,_,h,_=>h.elim
 | _::_,_,[],_,h,_=>h.elim
theorem Are.drop:∀ {xs:List MV}{vs:List Value}(k:Nat),Are ρ n xs vs→Are ρ n (xs.drop k) (vs.drop k)
 | _,_,0,h=>h
 | [],[],_+1,_=>trivial
 | _::_,_::_,k+1,h=>Are.drop k h.2
 | [],_::_,_+1,h=>h.elim
 | _::_,[],_+1,h=>h.elim
theorem Are.take:∀ {xs:List MV}{vs:List Value}(k:Nat),Are ρ n xs vs→Are ρ n (xs.take k) (vs.take k)
 | _,_,0,_=>trivial
 | [],[],_+1,_=>trivial
 | _::_,_::_,k+1,h=>⟨h.1,Are.take k h.2⟩
 | [],_::_,_+1,h=>h.elim
 | _::_,[],_+1,h=>h.elim
theorem Are.reverse:∀ {xs:List MV}{vs:List Value},Are ρ n xs vs→Are ρ n xs.reverse vs.reverse
 | [],[],_=>trivial
 | x::xs,v::vs,h=>by
  rw [List.reverse_cons,List.reverse_cons];exact (Are.reverse h.2).append ⟨h.1,trivial⟩
 | [],_::_,h=>h.elim
 | _::_,[],h=>h.elim
noncomputable def rB (b:Int):Int:=(b*39373+7).fmod 2147483647
def dr (a b t:Int):Int:=if 0<a then a.fmod t else (((rB b*rB b).fmod 2147483629).fdiv 32).fmod t
noncomputable def nxA (a t:Int):Int:=if 0<a then a.fdiv t else a
def nxB (a b:Int):Int:=if 0<a then b else rB b
def Qt (a b:Int):Prop:=0≤a∧0≤b∧b<2147483647
noncomputable def Fut:Int→Int→List (Int×Int)→Prop
 | a,b,[]=>Qt a b
 | a,b,(t,d)::l=>0<t∧t<1000∧Qt a b∧dr a b t=d∧Fut (nxA a t) (nxB a b) l
inductive MObj where
 | tup (xs:List MV)
 | list (xs:List MV)
 | dict (es:List (Str×MV))
 | fdict (es:List (Str×MV)) (j:Nat)
 | inst (C:Addr) (d:Nat)
 | frame (m:List (Str×MV))
 | cell (x:Option MV)
 | lam (e:Expr) (sc:Scope) (cs:List (Str×Nat)) (code:Value) (qual:Str)
 | rng (a b c:Int)
 | itList (l i:Nat)
 | itTup (x:MV) (i:Nat)
 | itRange (a:Int) (n:Nat) (c:Int)
 | itStr (x:Str) (i:Nat)
 | itDict (d i n:Nat)
 | itEnum (it:Nat) (k:Nat)
 | itEnumO (it:Nat) (k:Nat) (j:Nat)
 | code (q:Str)
 | src (a b:Int) (l:List (Int×Int))
 | tab (P:Addr) (ps:Array Value) (q:Str) (es:List (Nat×Nat×Nat))
inductive Tr (α:Type) where
 | nil
 | node (v:Option α) (l r:Tr α)
namespace Tr
variable {α:Type}
noncomputable def get:Tr α→Nat→Option α
 | .nil,_=>none
 | .node v l r,i=>match beq i 0 with
  | true=>v
  | false=>match beq (i % 2) 1 with
   | true=>l.get (i / 2)
   | false=>r.get (i / 2 - 1)
noncomputable def set:Nat→Tr α→Nat→Option α→Tr α
 | 0,t,_,_=>t
 | f+1,.nil,i,o=>match beq i 0 with
  | true=>.node o .nil .nil
  | false=>match beq (i % 2) 1 with
   | true=>.node none (set f .nil (i / 2) o) .nil
   | false=>.node none .nil (set f .nil (i / 2 - 1) o)
 | f+1,.node v l r,i,o=>match beq i 0 with
  | true=>.node o l r
  | false=>match beq (i % 2) 1 with
   | true=>.node v (set f l (i / 2) o) r
   | false=>.node v l (set f r (i / 2 - 1) o)
theorem beq_eq (a b:Nat):beq a b=decide (a=b):=by
 cases h:beq a b with
 | true=>rw [eq_of_beq_eq_true h]; simp
 | false=>simp [Nat.ne_of_beq_eq_false h]
theorem sel {β:Type}(a b c d:Nat)(x y z:β):(match beq a b with | true=>x | false=>match beq c d with | true=>y | false=>z)=if a=b then x else if c=d then y else z:=by
 rw [beq_eq,beq_eq];by_cases h:a=b
 ·simp [h]
 ·by_cases q:c=d<;>simp [h,q]
theorem Z2D (v:Option α)(l r:Tr α)(i:Nat):(node v l r).get i=if i=0 then v else if i % 2=1 then l.get (i / 2) else r.get (i / 2 - 1):=sel ..
noncomputable def lo:Tr α→Tr α
 | .nil=>.nil
 | .node _ l _=>l
noncomputable def hi:Tr α→Tr α
 | .nil=>.nil
 | .node _ _ r=>r
noncomputable def va:Tr α→Option α
 | .nil=>none
 | .node v _ _=>v
theorem Z2N (t:Tr α)(i:Nat):t.get i=if i=0 then t.va else if i % 2=1 then t.lo.get (i / 2) else t.hi.get (i / 2 - 1):=by
 induction t using Tr.casesOn with
 | nil=>exact ((congrArg (fun x=>if i=0 then none else x) (ite_self none)).trans (ite_self none)).symm
 | node v l r=>exact Z2D v l r i
theorem Z89 (f:Nat)(t:Tr α)(i:Nat)(o:Option α):set (f+1) t i o=if i=0 then .node o t.lo t.hi else if i % 2=1 then .node t.va (set f t.lo (i / 2) o) t.hi else .node t.va t.lo (set f t.hi (i / 2 - 1) o):=by
 induction t using Tr.casesOn with
 | _=>exact sel ..
theorem Z6q (h:j / 2=i / 2)(q:j % 2=i % 2):j=i:=(Nat.div_add_mod j 2).symm.trans (by rw [h,q]; exact Nat.div_add_mod i 2)
theorem Z6J (h:i≠0)(q:¬ i % 2=1):0<i / 2:=Nat.div_pos (Nat.lt_of_le_of_ne (Nat.pos_of_ne_zero h) fun e=>q (e▸rfl)) (succ_pos 1)
theorem Z64 (q:¬ i % 2=1):i % 2=0:=(Nat.mod_two_eq_zero_or_one i).resolve_right q
theorem get_set:∀ (f:Nat)(t:Tr α)(i j:Nat)(o:Option α),i<f→(set f t i o).get j=if j=i then o else t.get j
 | 0,_,i,_,_,h=>absurd h (not_lt_zero i)
 | f+1,t,i,j,o,h=>by
  rw [Z89];by_cases hi:i=0
  ·rw [if_pos hi,Z2D,Z2N t j,hi];by_cases hj:j=0
   ·rw [if_pos hj,if_pos hj]
   ·rw [if_neg hj,if_neg hj,if_neg hj]
  ·have hlt:i / 2<f:=W00 (Nat.div_lt_self (Nat.pos_of_ne_zero hi) (W02 1)) (Nat.le_of_lt_succ h);rw [if_neg hi];by_cases q:i % 2=1
   ·rw [if_pos q,Z2D,get_set f t.lo (i / 2) (j / 2) o hlt,Z2N t j];by_cases hj:j=0
    ·rw [if_pos hj,if_pos hj,if_neg fun e=>hi (e.symm.trans hj)]
    ·rw [if_neg hj,if_neg hj];by_cases qj:j % 2=1
     ·rw [if_pos qj,if_pos qj];exact ite_congr (propext ⟨fun e=>Z6q e (qj.trans q.symm),fun e=>congrArg (· / 2) e⟩) (fun u0=>rfl) fun u0=>rfl
     ·rw [if_neg qj,if_neg qj,if_neg fun e:j=i=>qj (e▸q)]
   ·rw [if_neg q,Z2D,get_set f t.hi (i / 2 - 1) (j / 2 - 1) o (Nat.lt_of_le_of_lt (Nat.sub_le _ _) hlt),Z2N t j];by_cases hj:j=0
    ·rw [if_pos hj,if_pos hj,if_neg fun e=>hi (e.symm.trans hj)]
    ·rw [if_neg hj,if_neg hj];by_cases qj:j % 2=1
     ·rw [if_pos qj,if_pos qj,if_neg fun e:j=i=>q (e▸qj)]
     ·rw [if_neg qj,if_neg qj];exact ite_congr (propext ⟨fun e=>Z6q (Nat.pred_inj (Z6J hj qj) (Z6J hi q) e) ((Z64 qj).trans (Z64 q).symm),fun e=>congrArg (· / 2 - 1) e⟩) (fun u0=>rfl) fun u0=>rfl
end Tr
structure St where
 n:Nat
 t:Tr MObj
theorem Z3a (i:Nat):i<i+1:=W02 i
noncomputable def St.get (st:St)(i:Nat):Option MObj:=st.t.get i
noncomputable def St.put (st:St)(i:Nat)(o:MObj):St:=⟨st.n,st.t.set (i+1) i (some o)⟩
noncomputable def St.del (st:St)(i:Nat):St:=⟨st.n,st.t.set (i+1) i none⟩
noncomputable def St.push (st:St)(o:MObj):St:=⟨st.n+1,st.t.set (st.n+1) st.n (some o)⟩
theorem St.get_put {st:St}(o:MObj)(j:Nat):(st.put i o).get j=if j=i then some o else st.get j:=Tr.get_set _ _ _ _ _ (Z3a i)
theorem St.get_push {st:St}(o:MObj)(j:Nat):(st.push o).get j=if j=st.n then some o else st.get j:=Tr.get_set _ _ _ _ _ (Z3a _)
theorem St.get_del {st:St}(j:Nat):(st.del i).get j=if j=i then none else st.get j:=Tr.get_set _ _ _ _ _ (Z3a i)
@[simp] theorem St.n_put (st:St) (i:Nat) (o:MObj):(st.put i o).n=st.n:=rfl
@[simp] theorem St.n_push (st:St) (o:MObj):(st.push o).n=st.n+1:=rfl
structure Cfg where
 prog:Program
 w:World
 K:Frag
 h0:Heap
 U:Addr→Prop
 F:Addr→Prop
 G:Addr→Prop
 X:Prop
 ro:Tr MObj
 d:Drawn
 os:OsState
def Yh (F:Prop)(o:Obj)(r:Option Obj):Prop :=
 r=some o∨(F∧o.cls = .type "frame"∧∃ sl,r=some { o with slots:=sl })
theorem Yh.solid (h:Yh F o r)(hs:¬ F):r=some o:=by
 rcases h with h | ⟨f,_,_⟩
 ·exact h
 ·exact absurd f hs
theorem Yh.some (h:Yh F o r):∃ o',r=some o':=by
 rcases h with h | ⟨_,_,sl,h⟩<;>exact ⟨_,h⟩
theorem Yh.imp (h:Yh F o r)(k:F→G):Yh G o r:=Or.imp id (fun ⟨a,b⟩=>⟨k a,b⟩) h
def Dct (c:Cfg)(h:Heap)(a:Addr)(kvs:List (Str×Value))(ep:Nat):Prop:=h.DictAt (strKind c.prog c.w) a kvs ep
noncomputable def Zu (ρ:Rho)(n:Nat):List (Str×MV)→List (Str×Value)→Prop
 | [],[]=>True
 | (k,x)::xs,(j,v)::vs=>k=j∧x.Is ρ n v∧Zu ρ n xs vs
 | _,_=>False
theorem Zu.mono (g:Ag ρ ρ' n)(hn:n≤n'):∀ {xs:List (Str×MV)}{vs:List (Str×Value)},Zu ρ n xs vs→Zu ρ' n' xs vs
 | [],[],_=>trivial
 | (_,_)::_,(_,_)::_,h=>⟨h.1,h.2.1.mono g hn,Zu.mono g hn h.2.2⟩
 | [],_::_,h=>h.elim
 | (_,_)::_,[],h=>h.elim
noncomputable def Z2 (x:Str):List (Str×MV)→Option MV
 | []=>none
 | (k,v)::r=>match decide (k=x) with
  | true=>some v
  | false=>Z2 x r
def J9 (ρ:Rho)(n:Nat)(m:List (Str×MV))(f:Str→Option Value):Prop :=
 ∀ x,match Z2 x m with
  | some y=>∃ v,f x=some v∧y.Is ρ n v
  | none=>f x=none
noncomputable def ZS (l k:Nat):List (Nat×Nat×Nat)→Option Nat
 | []=>none
 | (a,b,j)::r=>match beq a l&&beq b k with
  | true=>some j
  | false=>ZS l k r
theorem Z1b:∀ {es:List (Nat×Nat×Nat)},ZS l k es=some j→(l,k,j)∈es
 | [],h=>by cases h
 | (a,b,i)::r,h=>by
  refine bC h (fun q h=>?_) fun u0 h=>W0e _ (Z1b h);rw [and_eq_true] at q
  cases h
  rw [← eq_of_beq_eq_true q.1,← eq_of_beq_eq_true q.2];exact W0d
def At (c:Cfg)(ρ:Rho)(n:Nat)(h:Heap)(i:Nat):MObj→Prop
 | .tup xs=>∃ vs ep,h.get? (ρ.a i)=some { cls:=.type "tuple",data:=.seq vs ep }∧Are ρ n xs vs.toList
 | .list xs=>∃ vs ep,h.get? (ρ.a i)=some { cls:=.type "list",data:=.seq vs ep }∧Are ρ n xs vs.toList
 | .dict es=>∃ kvs ep,Dct c h (ρ.a i) kvs ep∧Zu ρ n es kvs
 | .fdict es j=>j<n∧∃ kvs,Dct c h (ρ.a i) kvs (ρ.o j)∧Zu ρ n es kvs
 | .inst C d=>d<n∧h.get? (ρ.a i)=some (instObj C (ρ.a d))
 | .frame m=>∃ f,h.Ns (ρ.a i) f∧J9 ρ n m f
 | .cell none=>∃ o,h.get? (ρ.a i)=some o∧o.data = .cell none
 | .cell (some x)=>∃ o v,h.get? (ρ.a i)=some o∧o.data = .cell (some v)∧x.Is ρ n v
 | .lam e sc cs code qual=>∃ o fd,h.get? (ρ.a i)=some o∧o.cls = .type "function"∧o.data = .func fd∧fd.body = .expr e∧fd.scope=sc∧fd.closure=cs.map (fun p=>(p.1,ρ.a p.2))∧(∀ p∈cs,p.2<n) ∧
   fd.params=⟨[],[],none,[],[],none,[]⟩∧fd.defaults = .none∧fd.kwdefaults = .none∧fd.globals=mainGlobals∧fd.builtins=builtinsNs∧fd.code=code∧fd.qualname=qual
 | .rng a b d=>∃ t u v,IsRange h (ρ.a i) a b d t u v
 | .itList l k=>l<n∧h.IsListIter (ρ.a i) (ρ.a l) k
 | .itTup x k=>∃ t,x.Is ρ n (.ref t)∧h.IsTupleIter (ρ.a i) t k
 | .itRange a m c=>IsRangeIter h (ρ.a i) a m c
 | .itStr x k=>∃ t,h.IsStrIter (ρ.a i) (if x.cps.all (·<128) then "str_ascii_iterator" else "str_iterator") x t k
 | .itDict d k m=>d<n∧h.IsKeyIter (ρ.a i) (ρ.a d) k m (ρ.o i)
 | .itEnum it k=>it<n∧∃ old,IsEnum h (ρ.a i) (ρ.a it) k old
 | .itEnumO it k j=>it<n∧j<n∧∃ x,IsEnumOut h (ρ.a i) (ρ.a it) k x (ρ.a j)
 | .code q=>∃ o vs t,h.get? (ρ.a i)=some o∧o.data = .fields vs∧vs[1]?=some (.str q t)
 | .src a b l=>∃ t u ep,h.get? (ρ.a i)=some { cls:=.type "list",data:=.seq #[.int a t,.int b u] ep }∧Fut a b l
 | .tab P ps _ es=>ρ.a i=P∧(∃ more,h.get? (ρ.a i)=some (tabObj (ps++more))∧TriplesOk (ps++more).toList∧∀ pos:Pos,codeAmong pos (ps++more).toList=(ZS pos.line pos.col es).map fun j=>Value.ref (ρ.a j))∧∀ p∈es,p.2.2<n
theorem At.some (x:At c ρ n h i o):∃ ob,h.get? (ρ.a i)=some ob:=by
 cases o with
 | tup xs=>obtain ⟨_,_,e,_⟩:=x;exact ⟨_,e⟩
 | list xs=>obtain ⟨_,_,e,_⟩:=x;exact ⟨_,e⟩
 | dict es=>(refine xEEA x ?_;(try clear x);intro _ _ o0 _;obtain ⟨o,_,e,_⟩:=o0);exact ⟨o,e⟩
 | fdict es j=>(refine xAEA x ?_;(try clear x);intro _ _ o1 _;obtain ⟨o,_,e,_⟩:=o1);exact ⟨o,e⟩
 | inst C d=>exact ⟨_,x.2⟩
 | frame m=>(refine xEA x ?_;(try clear x);intro _ o2 _;obtain ⟨o,_,_,e,_⟩:=o2);exact ⟨o,e⟩
 | cell y=>cases y with
  | none=>obtain ⟨o,e,_⟩:=x;exact ⟨o,e⟩
  | some y=>obtain ⟨o,_,e,_⟩:=x;exact ⟨o,e⟩
 | lam=>obtain ⟨o,_,e,_⟩:=x;exact ⟨o,e⟩
 | rng a b d=>obtain ⟨_,_,_,e⟩:=x;exact ⟨_,e⟩
 | itList l k=>obtain ⟨_,o,e,_⟩:=x;exact ⟨o,e⟩
 | itTup y k=>obtain ⟨_,_,o,e,_⟩:=x;exact ⟨o,e⟩
 | itRange a m d=>exact ⟨_,x⟩
 | itStr y k=>obtain ⟨_,o,e,_⟩:=x;exact ⟨o,e⟩
 | itDict d k m=>obtain ⟨_,o,e,_⟩:=x;exact ⟨o,e⟩
 | itEnum it k=>obtain ⟨_,_,e⟩:=x;exact ⟨_,e⟩
 | itEnumO it k l=>obtain ⟨_,_,_,e⟩:=x;exact ⟨_,e⟩
 | code q=>obtain ⟨o,_,_,e,_⟩:=x;exact ⟨o,e⟩
 | src=>obtain ⟨_,_,_,e,_⟩:=x;exact ⟨_,e⟩
 | tab P ps q es=>(refine xAA x ?_;(try clear x);intro _ o3 _;obtain ⟨_,e,_⟩:=o3);exact ⟨_,e⟩
theorem At.heap (x:At c ρ n h i o)(k:h'.get? (ρ.a i)=h.get? (ρ.a i)):At c ρ n h' i o:=by
 cases o with
 | tup xs=>obtain ⟨vs,ep,e,r⟩:=x;exact ⟨vs,ep,k.trans e,r⟩
 | list xs=>obtain ⟨vs,ep,e,r⟩:=x;exact ⟨vs,ep,k.trans e,r⟩
 | dict es=>(refine xEEA x ?_;(try clear x);intro kvs ep o0 q;obtain ⟨o,es',e,r⟩:=o0);exact ⟨kvs,ep,⟨o,es',k.trans e,r⟩,q⟩
 | fdict es j=>(refine xAEA x ?_;(try clear x);intro hj kvs o1 q;obtain ⟨o,es',e,r⟩:=o1);exact ⟨hj,kvs,⟨o,es',k.trans e,r⟩,q⟩
 | inst C d=>exact ⟨x.1,k.trans x.2⟩
 | frame m=>(refine xEA x ?_;(try clear x);intro f o2 q;obtain ⟨o,es,ep,e,r⟩:=o2);exact ⟨f,⟨o,es,ep,k.trans e,r⟩,q⟩
 | cell y=>cases y with
  | none=>obtain ⟨o,e,r⟩:=x;exact ⟨o,k.trans e,r⟩
  | some y=>obtain ⟨o,v,e,r⟩:=x;exact ⟨o,v,k.trans e,r⟩
 | lam=>obtain ⟨o,fd,e,r⟩:=x;exact ⟨o,fd,k.trans e,r⟩
 | rng a b d=>obtain ⟨t,u,v,e⟩:=x;exact ⟨t,u,v,k.trans e⟩
 | itList l j=>obtain ⟨q,o,e,r⟩:=x;exact ⟨q,o,k.trans e,r⟩
 | itTup y j=>obtain ⟨t,q,o,e,r⟩:=x;exact ⟨t,q,o,k.trans e,r⟩
 | itRange a m d=>exact k.trans x
 | itStr y j=>obtain ⟨t,o,e,r⟩:=x;exact ⟨t,o,k.trans e,r⟩
 | itDict d j m=>obtain ⟨q,o,e,r⟩:=x;exact ⟨q,o,k.trans e,r⟩
 | itEnum it j=>obtain ⟨q,old,e⟩:=x;exact ⟨q,old,k.trans e⟩
 | itEnumO it j l=>(refine xAAE x ?_;(try clear x);intro q q' y e);exact ⟨q,q',y,k.trans e⟩
 | code q=>obtain ⟨o,vs,t,e,r⟩:=x;exact ⟨o,vs,t,k.trans e,r⟩
 | src=>obtain ⟨t,u,ep,e,r⟩:=x;exact ⟨t,u,ep,k.trans e,r⟩
 | tab P ps q es=>(refine xAA x ?_;(try clear x);intro r o3 r'';obtain ⟨m,e,r'⟩:=o3);exact ⟨r,⟨m,k.trans e,r'⟩,r''⟩
theorem J9.mono (x:J9 ρ n m f)(g:Ag ρ ρ' n)(hn:n≤n'):J9 ρ' n' m f:=by
 intro y;have z:=x y
 cases q:Z2 y m with
 | none=>rw [q] at z;exact z
 | some w=>rw [q] at z;obtain ⟨v,h1,h2⟩:=z;exact ⟨v,h1,h2.mono g hn⟩
theorem At.mono (x:At c ρ n h i o)(g:Ag ρ ρ' n)(hn:n≤n')(hi:i<n):At c ρ' n' h i o:=by
 have ea:=(g i hi).1;have eo:=(g i hi).2
 cases o with
 | tup xs=>obtain ⟨vs,ep,e,r⟩:=x;exact ⟨vs,ep,by rw [ea]; exact e,r.mono g hn⟩
 | list xs=>obtain ⟨vs,ep,e,r⟩:=x;exact ⟨vs,ep,by rw [ea]; exact e,r.mono g hn⟩
 | dict es=>obtain ⟨kvs,ep,e,q⟩:=x;exact ⟨kvs,ep,by rw [ea]; exact e,q.mono g hn⟩
 | fdict es j=>obtain ⟨hj,kvs,e,q⟩:=x;exact ⟨W00 hj hn,kvs,by rw [ea,(g j hj).2]; exact e,q.mono g hn⟩
 | inst C d=>exact ⟨W00 x.1 hn,by rw [ea,(g d x.1).1]; exact x.2⟩
 | frame m=>obtain ⟨f,e,q⟩:=x;exact ⟨f,by rw [ea]; exact e,q.mono g hn⟩
 | cell y=>cases y with
  | none=>obtain ⟨o,e,r⟩:=x;exact ⟨o,by rw [ea]; exact e,r⟩
  | some y=>obtain ⟨o,v,e,r,q⟩:=x;exact ⟨o,v,by rw [ea]; exact e,r,q.mono g hn⟩
 | lam e sc cs code qual =>
  (refine xEEAAAAAA x ?_;(try clear x);intro o fd e h1 h2 h3 h4 h5 o0;refine xA o0 ?_;clear o0;intro h6 r)
  refine ⟨o,fd,by rw [ea]; exact e,h1,h2,h3,h4,?_,fun p hp=>W00 (h6 p hp) hn,r⟩;rw [h5];exact W0f fun p hp=>by rw [(g p.2 (h6 p hp)).1]
 | rng a b d=>obtain ⟨t,u,v,e⟩:=x;exact ⟨t,u,v,by rw [ea]; exact e⟩
 | itList l j=>obtain ⟨q,e⟩:=x;exact ⟨W00 q hn,by rw [ea,(g l q).1]; exact e⟩
 | itTup y j=>obtain ⟨t,q,e⟩:=x;exact ⟨t,q.mono g hn,by rw [ea]; exact e⟩
 | itRange a m d=>show IsRangeIter h (ρ'.a i) a m d;rw [ea]; exact x
 | itStr y j=>obtain ⟨t,e⟩:=x;exact ⟨t,by rw [ea]; exact e⟩
 | itDict d j m=>obtain ⟨q,e⟩:=x;exact ⟨W00 q hn,by rw [ea,eo,(g d q).1]; exact e⟩
 | itEnum it j=>obtain ⟨q,old,e⟩:=x;exact ⟨W00 q hn,old,by rw [ea,(g it q).1]; exact e⟩
 | itEnumO it j l=>(refine xAAE x ?_;(try clear x);intro q q' y e);exact ⟨W00 q hn,W00 q' hn,y,by rw [ea,(g it q).1,(g l q').1]; exact e⟩
 | code q=>obtain ⟨o,vs,t,e,r⟩:=x;exact ⟨o,vs,t,by rw [ea]; exact e,r⟩
 | src=>obtain ⟨t,u,ep,e,r⟩:=x;exact ⟨t,u,ep,by rw [ea]; exact e,r⟩
 | tab P ps q es =>
  (refine xAA x ?_;(try clear x);intro r o1 r3;obtain ⟨m,e,r1,r2⟩:=o1)
  refine ⟨by rw [ea]; exact r,⟨m,by rw [ea]; exact e,r1,fun pos=>?_⟩,fun p hp=>W00 (r3 p hp) hn⟩;rw [r2 pos]
  cases hl:ZS pos.line pos.col es with
  | none=>rfl
  | some j=>show Option.some (Value.ref (ρ.a j))=Option.some (Value.ref (ρ'.a j)); rw [(g j (r3 _ (Z1b hl))).1]
noncomputable def ZE:MObj→Bool
 | .frame _=>true
 | _=>false
noncomputable def fy:MObj→Bool
 | .rng ..=>true
 | .itList ..=>true
 | .itTup ..=>true
 | .itRange ..=>true
 | .itStr ..=>true
 | .itDict ..=>true
 | .itEnum ..=>true
 | .itEnumO ..=>true
 | .code ..=>true
 | .tab ..=>true
 | _=>false
theorem At.isfy (x:At c ρ n h i o)(hf:fy o=true):∃ ob vs,h.get? (ρ.a i)=Option.some ob∧ob.data = .fields vs:=by
 induction o using MObj.casesOn with
 | rng a b d=>obtain ⟨_,_,_,e⟩:=x;exact ⟨_,_,e,rfl⟩
 | itList l k=>obtain ⟨_,o,e,_,d⟩:=x;exact ⟨o,_,e,d⟩
 | itTup y k=>obtain ⟨_,_,o,e,_,d⟩:=x;exact ⟨o,_,e,d⟩
 | itRange a m d=>exact ⟨_,_,x,rfl⟩
 | itStr y k=>obtain ⟨_,o,e,_,d⟩:=x;exact ⟨o,_,e,d⟩
 | itDict d k m=>obtain ⟨_,o,e,_,d⟩:=x;exact ⟨o,_,e,d⟩
 | itEnum it k=>obtain ⟨_,_,e⟩:=x;exact ⟨_,_,e,rfl⟩
 | itEnumO it k l=>obtain ⟨_,_,_,e⟩:=x;exact ⟨_,_,e,rfl⟩
 | code q=>obtain ⟨o,vs,_,e,d,_⟩:=x;exact ⟨o,vs,e,d⟩
 | tab P ps q es=>(refine xAA x ?_;(try clear x);intro _ o0 _;obtain ⟨_,e,_⟩:=o0);exact ⟨_,_,e,rfl⟩
 | _=>cases hf
theorem At.nofy (x:At c ρ n h i o)(hf:fy o=false):∃ ob,h.get? (ρ.a i)=Option.some ob∧∀ vs,ob.data ≠ .fields vs:=by
 cases o with
 | tup xs=>obtain ⟨_,_,e,_⟩:=x;exact ⟨_,e,nofun⟩
 | list xs=>obtain ⟨_,_,e,_⟩:=x;exact ⟨_,e,nofun⟩
 | dict es=>(refine xEEA x ?_;(try clear x);intro _ _ o0 _;obtain ⟨o,_,e,_,d,_⟩:=o0);exact ⟨o,e,fun vs q=>by rw [d] at q;cases q⟩
 | fdict es j=>(refine xAEA x ?_;(try clear x);intro _ _ o1 _;obtain ⟨o,_,e,_,d,_⟩:=o1);exact ⟨o,e,fun vs q=>by rw [d] at q;cases q⟩
 | inst C d=>exact ⟨_,x.2,nofun⟩
 | frame m=>(refine xEA x ?_;(try clear x);intro _ o2 _;obtain ⟨o,_,_,e,d,_⟩:=o2);exact ⟨o,e,fun vs q=>by rw [d] at q;cases q⟩
 | cell y=>cases y with
  | none=>obtain ⟨o,e,d⟩:=x;exact ⟨o,e,fun vs q=>by rw [d] at q;cases q⟩
  | some y=>obtain ⟨o,_,e,d,_⟩:=x;exact ⟨o,e,fun vs q=>by rw [d] at q;cases q⟩
 | lam=>obtain ⟨o,_,e,_,d,_⟩:=x;exact ⟨o,e,fun vs q=>by rw [d] at q;cases q⟩
 | src=>obtain ⟨_,_,_,e,_⟩:=x;exact ⟨_,e,nofun⟩
 | _=>cases hf
structure Cfg.Ok (c:Cfg):Prop where
 kin:∀ a o,c.K.lookup a=some o→c.h0.get? a=some o∧c.U a∧¬ c.F a
 alive:∀ b,c.U b→∃ o,c.h0.get? b=some o
 sys:c.U sysModules
 lim:c.h0.NoLimit
 limU:c.U cStatics
 limS:¬ c.F cStatics
structure Rel (c:Cfg)(ρ:Rho)(st:St)(s:Shared):Prop where
 big:∀ L,c.G L→(∃ o,s.heap.get? L=some o∧∀ vs,o.data ≠ .fields vs)∧¬ c.U L∧∀ i o,st.get i=some o→ρ.a i=L→ZE o=true
 at_:∀ i o,st.get i=some o→i<st.n∧At c ρ st.n s.heap i o∧¬ c.U (ρ.a i)
 inj:∀ i j oi oj,st.get i=some oi→st.get j=some oj→ρ.a i=ρ.a j→i=j
 ro:∀ i o,c.ro.get i=some o→i<st.n∧At c ρ st.n s.heap i o∧c.U (ρ.a i)∧ρ.a i≠sysModules
 keep:∀ b o,c.h0.get? b=some o→c.U b→Yh (c.F b) o (s.heap.get? b)
 gens:s.gens=#[]
 os:s.os=c.os
 drawn:s.drawn=c.d
section
variable {c:Cfg}{ρ:Rho}{st:St}{s:Shared}
theorem Rel.kin (R:Rel c ρ st s)(C:c.Ok):c.K.In s.heap:=fun a o e =>
 let ⟨h1,h2,h3⟩:=C.kin a o e
 (R.keep a o h1 h2).solid h3
theorem Rel.old_lt (R:Rel c ρ st s)(C:c.Ok)(h:c.U b):b<s.heap.objs.size:=by
 obtain ⟨o,ho⟩:=C.alive b h
 (refine xE ((R.keep b o ho h).some) ?_;intro o' ho')
 exact lt_size ho'
theorem Rel.toks (R:Rel c ρ st s)(t:Nat):Rel c ρ st { s with toks:=t }:=⟨R.big,R.at_,R.inj,R.ro,R.keep,R.gens,R.os,R.drawn⟩
theorem Rel.more (R:Rel c ρ st s)(t:Nat)(k:∀ b o,s.heap.get? b=some o→h'.get? b=some o):Rel c ρ st { s with heap:=h',toks:=t }:=by
 refine ⟨fun L h=>let ⟨⟨o,e,d⟩,r⟩:=R.big L h;⟨⟨o,k _ _ e,d⟩,r⟩,fun i o e=>?_,R.inj,fun i o e=>?_,fun b o e hu=>?_,R.gens,R.os,R.drawn⟩
 ·obtain ⟨h1,h2,h3⟩:=R.at_ i o e;obtain ⟨ob,hob⟩:=h2.some;exact ⟨h1,h2.heap ((k _ _ hob).trans hob.symm),h3⟩
 ·obtain ⟨h1,h2,h3⟩:=R.ro i o e;obtain ⟨ob,hob⟩:=h2.some;exact ⟨h1,h2.heap ((k _ _ hob).trans hob.symm),h3⟩
 ·have z:=R.keep b o e hu;obtain ⟨ob,hob⟩:=z.some;show Yh (c.F b) o (h'.get? b);rw [k _ _ hob,← hob]; exact z
theorem Rel.upd (R:Rel c ρ st s)(t:Nat)(hi:st.get i=some o₀)(k:∀ b ob,b≠ρ.a i→s.heap.get? b=some ob→h'.get? b=some ob)(_hz:s.heap.objs.size≤h'.objs.size)
  (x:At c ρ st.n h' i o) (hk:fy o₀=false→fy o=false∧(ZE o₀=true→ZE o=true):=by intro h;first | exact ⟨rfl,fun u0=>rfl⟩ | exact ⟨rfl,fun q=>absurd q (by decide)⟩ | exact ⟨rfl,fun q=>by cases q⟩ | cases h):Rel c ρ (st.put i o) { s with heap:=h',toks:=t }:=by
 obtain ⟨hin,_,hu⟩:=R.at_ i o₀ hi;have hit:True:=trivial;have get:∀ j oj,(st.put i o).get j=some oj→(j=i∧oj=o)∨(j≠i∧st.get j=some oj):=by
  intro j oj e;rw [St.get_put] at e;by_cases hj:j=i
  ·rw [if_pos hj] at e;exact .inl ⟨hj,(W0g e).symm⟩
  ·rw [if_neg hj] at e;exact .inr ⟨hj,e⟩
 have old:∀ j oj,(st.put i o).get j=some oj→∃ oj',st.get j=some oj':=by
  intro j oj e;rcases get j oj e with ⟨rfl,_⟩ | ⟨_,e⟩
  ·exact ⟨_,hi⟩
  ·exact ⟨_,e⟩
 have hat:=(R.at_ i o₀ hi).2.1;have hgr:∀ L,c.G L→(∃ o,h'.get? L=some o∧∀ vs,o.data ≠ .fields vs)∧¬ c.U L∧∀ j oj,(st.put i o).get j=some oj→ρ.a j=L→ZE oj=true:=fun L h=>by
  (refine xAA (R.big L h) ?_;intro o0 hu' hfr;obtain ⟨ob,e,d⟩:=o0)
  have h0:L=ρ.a i→fy o₀=false:=by
   intro q;subst q
   cases hz:fy o₀ with
   | false=>rfl
   | true=>(refine xEEA (hat.isfy hz) ?_;intro ob' vs e' d');rw [e] at e';cases e';exact absurd d' (d vs)
  refine ⟨?_,hu',fun j oj ej q=>?_⟩
  ·by_cases q:L=ρ.a i
   ·have h1:=x.nofy (hk (h0 q)).1;rw [q]; exact h1
   ·exact ⟨ob,k _ _ q e,d⟩
  ·rcases get j oj ej with ⟨rfl,rfl⟩ | ⟨_,ej⟩
   ·exact (hk (h0 q.symm)).2 (hfr _ _ hi q)
   ·exact hfr j oj ej q
 refine ⟨hgr,fun j oj e=>?_,fun j l oj ol ej el=>?_,fun j oj e=>?_,fun b ob e hub=>?_,R.gens,R.os,R.drawn⟩
 ·rcases get j oj e with ⟨rfl,rfl⟩ | ⟨hj,e⟩
  ·exact ⟨hin,x,hu⟩
  ·obtain ⟨h1,h2,h3⟩:=R.at_ j oj e;obtain ⟨ob,hob⟩:=h2.some;exact ⟨h1,h2.heap ((k _ _ (fun q=>hj (R.inj j i _ _ e hi q)) hob).trans hob.symm),h3⟩
 ·(refine xE (old j oj ej) ?_;intro _ ej')
  (refine xE (old l ol el) ?_;intro _ el')
  exact R.inj j l _ _ ej' el'
 ·obtain ⟨h1,h2,h3,h4⟩:=R.ro j oj e;obtain ⟨ob,hob⟩:=h2.some;exact ⟨h1,h2.heap ((k _ _ (fun q=>hu (q▸h3)) hob).trans hob.symm),h3,h4⟩
 ·have z:=R.keep b ob e hub
  (refine xE (z.some) ?_;intro ob' hob')
  show Yh (c.F b) ob (h'.get? b)
  rw [k _ _ (fun q=>hu (q▸hub)) hob',← hob']; exact z
theorem Rel.drop (R:Rel c ρ st s)(t:Nat)(hi:st.get i=some o₀)(k:∀ b ob,b≠ρ.a i→s.heap.get? b=some ob→h'.get? b=some ob)(hd:fy o₀=true∨¬ c.G (ρ.a i)):Rel c ρ (st.del i) { s with heap:=h',toks:=t }:=by
 obtain ⟨hin,_,hu⟩:=R.at_ i o₀ hi;have hit:True:=trivial;have get:∀ j oj,(st.del i).get j=some oj→j≠i∧st.get j=some oj:=by
  intro j oj e;rw [St.get_del] at e;by_cases hj:j=i
  ·rw [if_pos hj] at e;cases e
  ·rw [if_neg hj] at e;exact ⟨hj,e⟩
 have hgr:∀ L,c.G L→(∃ o,h'.get? L=some o∧∀ vs,o.data ≠ .fields vs)∧¬ c.U L∧∀ j oj,(st.del i).get j=some oj→ρ.a j=L→ZE oj=true:=fun L h=>by
  (refine xAA (R.big L h) ?_;intro o0 hu' hfr;obtain ⟨ob,e,d⟩:=o0)
  refine ⟨⟨ob,k _ _ (fun q=>?_) e,d⟩,hu',fun j oj ej q=>hfr j oj (get j oj ej).2 q⟩;subst q;rcases hd with hd | hd
  ·(refine xEEA ((R.at_ i o₀ hi).2.1.isfy hd) ?_;intro ob' vs e' d')
   rw [e] at e';cases e';exact absurd d' (d vs)
  ·exact hd h
 refine ⟨hgr,fun j oj e=>?_,fun j l oj ol ej el=>R.inj j l _ _ (get j oj ej).2 (get l ol el).2,fun j oj e=>?_,fun b ob e hub=>?_,R.gens,R.os,R.drawn⟩
 ·obtain ⟨hj,e⟩:=get j oj e;obtain ⟨h1,h2,h3⟩:=R.at_ j oj e;obtain ⟨ob,hob⟩:=h2.some;exact ⟨h1,h2.heap ((k _ _ (fun q=>hj (R.inj j i _ _ e hi q)) hob).trans hob.symm),h3⟩
 ·obtain ⟨h1,h2,h3,h4⟩:=R.ro j oj e;obtain ⟨ob,hob⟩:=h2.some;exact ⟨h1,h2.heap ((k _ _ (fun q=>hu (q▸h3)) hob).trans hob.symm),h3,h4⟩
 ·have z:=R.keep b ob e hub
  (refine xE (z.some) ?_;intro ob' hob')
  show Yh (c.F b) ob (h'.get? b)
  rw [k _ _ (fun q=>hu (q▸hub)) hob',← hob']; exact z
noncomputable def Rho.ext (ρ:Rho)(n a e:Nat):Rho:=⟨fun i=>if i=n then a else ρ.a i,fun i=>if i=n then e else ρ.o i⟩
theorem Rho.ext_ag (ρ:Rho)(n a e:Nat):Ag ρ (ρ.ext n a e) n:=fun i hi=>⟨if_neg (W05 hi),if_neg (W05 hi)⟩
@[simp] theorem Rho.ext_a (ρ:Rho) (n a e:Nat):(ρ.ext n a e).a n=a:=if_pos rfl
@[simp] theorem Rho.ext_o (ρ:Rho) (n a e:Nat):(ρ.ext n a e).o n=e:=if_pos rfl
theorem Rel.new (R:Rel c ρ st s)(C:c.Ok)(t:Nat)(hb:True)(k:∀ b ob,s.heap.get? b=some ob→h'.get? b=some ob)(ha:s.heap.objs.size≤a)(_haz:a<h'.objs.size)
  (x:At c (ρ.ext st.n a e) (st.n+1) h' st.n o):Rel c (ρ.ext st.n a e) (st.push o) { s with heap:=h',toks:=t }:=by
 have g:=ρ.ext_ag st.n a e;have get:∀ j oj,(st.push o).get j=some oj→(j=st.n∧oj=o)∨(j<st.n∧st.get j=some oj):=by
  intro j oj e;rw [St.get_push] at e;by_cases hj:j=st.n
  ·rw [if_pos hj] at e;exact .inl ⟨hj,(W0g e).symm⟩
  ·rw [if_neg hj] at e;exact .inr ⟨(R.at_ j oj e).1,e⟩
 have ne:∀ j oj,st.get j=some oj→ρ.a j≠a:=fun j oj hj q=>by
  obtain ⟨_,h2,_⟩:=R.at_ j oj hj;obtain ⟨ob,hob⟩:=h2.some;exact absurd (lt_size hob) (W0m (q▸ha))
 have hgr:∀ L,c.G L→(∃ o,h'.get? L=some o∧∀ vs,o.data ≠ .fields vs)∧¬ c.U L∧∀ j oj,(st.push o).get j=some oj→(ρ.ext st.n a e).a j=L→ZE oj=true:=fun L h=>by
  (refine xAA (R.big L h) ?_;intro o0 hu' hfr;obtain ⟨ob,e1,d⟩:=o0)
  refine ⟨⟨ob,k _ _ e1,d⟩,hu',fun j oj ej q=>?_⟩;rcases get j oj ej with ⟨rfl,rfl⟩ | ⟨hj,ej⟩
  ·rw [Rho.ext_a] at q;subst q;exact absurd (lt_size e1) (W0m ha)
  ·rw [(g j hj).1] at q;exact hfr j oj ej q
 refine ⟨hgr,fun j oj e=>?_,fun j l oj ol ej el q=>?_,fun j oj e=>?_,fun b ob e hub=>?_,R.gens,R.os,R.drawn⟩
 ·rcases get j oj e with ⟨rfl,rfl⟩ | ⟨hj,e⟩
  ·refine ⟨W02 _,x,fun q=>?_⟩;rw [Rho.ext_a] at q;have:=R.old_lt C q;omega
  ·obtain ⟨h1,h2,h3⟩:=R.at_ j oj e;obtain ⟨ob,hob⟩:=h2.some;exact ⟨W08 h1,(h2.heap ((k _ _ hob).trans hob.symm)).mono g (W03 _) h1,by rw [(g j h1).1]; exact h3⟩
 ·rcases get j oj ej with ⟨rfl,rfl⟩ | ⟨hj,ej'⟩<;>rcases get l ol el with ⟨rfl,rfl⟩ | ⟨hl,el'⟩
  ·rfl
  ·rw [Rho.ext_a,(g l hl).1] at q;exact absurd q.symm (ne l _ el')
  ·rw [Rho.ext_a,(g j hj).1] at q;exact absurd q (ne j _ ej')
  ·rw [(g j hj).1,(g l hl).1] at q;exact R.inj j l _ _ ej' el' q
 ·obtain ⟨h1,h2,h3,h4⟩:=R.ro j oj e;obtain ⟨ob,hob⟩:=h2.some;exact ⟨W08 h1,(h2.heap ((k _ _ hob).trans hob.symm)).mono g (W03 _) h1,by rw [(g j h1).1]; exact h3,by rw [(g j h1).1]; exact h4⟩
 ·have z:=R.keep b ob e hub
  (refine xE (z.some) ?_;intro ob' hob')
  show Yh (c.F b) ob (h'.get? b)
  rw [k _ _ hob',← hob']; exact z
theorem Rel.push (R:Rel c ρ st s)(C:c.Ok)(t:Nat)(hb:True)(x:At c (ρ.ext st.n s.heap.objs.size e) (st.n+1) (s.heap.push ob) st.n o) :
  Rel c (ρ.ext st.n s.heap.objs.size e) (st.push o) { s with heap:=s.heap.push ob,toks:=t } :=
 R.new C t hb (fun u0 u0 e=>get?_push_of_some _ e) (W04 _) (by rw [size_push]; exact W02 _) x
end
structure Z3 where
 sc:Scope
 loc:Nat
 cells:List (Str×Nat)
 code:Value
 qual:Str
 lev:Nat
structure ZF where
 ps:List Str
 dfl:List MV
 body:List Stmt
 sc:Scope
 code:Value
 qual:Str
structure Qu where
 init:Nat
 ms:List (Str×Nat)
 attrs:List Str
noncomputable def JE (x:Str):List Str→Bool
 | []=>false
 | y::r=>match decide (y=x) with | true=>true | false=>JE x r
inductive Out where
 | v (x:MV)
 | vs (l:List MV)
 | b (b:Bool)
 | nx
 | ret (x:MV)
 | u
theorem injV {G:Prop}{a b:MV}{β:Type _}{s s':β}(h:some (Out.v a,s)=some (Out.v b,s'))(g:a=b→s=s'→G):G:=injP h fun e=>g (Out.noConfusion e fun e=>e)
inductive Cmd where
 | ex (e:Expr) (ξ:Z3)
 | exs (es:List Expr) (ξ:Z3)
 | prs (ks:List (Option Expr)) (vs:List Expr) (ξ:Z3)
 | tst (e:Expr) (ξ:Z3)
 | tsts (op:BoolOp) (es:List Expr) (ξ:Z3)
 | bop (op:BoolOp) (es:List Expr) (ξ:Z3)
 | ifs (es:List Expr) (ξ:Z3)
 | st (s:Stmt) (ξ:Z3)
 | sts (l:List Stmt) (ξ:Z3)
 | asg (t:Expr) (x:MV) (ξ:Z3)
 | asgs (ts:List Expr) (xs:List MV) (ξ:Z3)
 | call (f:MV) (args:List MV) (lev:Nat)
 | forl (t:Expr) (it:Nat) (body:List Stmt) (ξ:Z3)
 | whl (test:Expr) (body:List Stmt) (ξ:Z3)
 | comp (elt target:Expr) (ifs:List Expr) (it acc:Nat) (ξ:Z3)
noncomputable abbrev Res:=Option (Out×St)
abbrev Ev:=Cmd→St→Res
def onV (r:Res)(k:MV→St→Res):Res:=match r with | some (.v a,st)=>k a st | _=>none
def JF (r:Res)(k:List MV→St→Res):Res:=match r with | some (.vs a,st)=>k a st | _=>none
def onB (r:Res)(k:Bool→St→Res):Res:=match r with | some (.b a,st)=>k a st | _=>none
def onU (r:Res)(k:St→Res):Res:=match r with | some (.u,st)=>k st | _=>none
def onF (r:Res)(k:St→Res)(q:MV→St→Res):Res:=match r with | some (.nx,st)=>k st | some (.ret x,st)=>q x st | _=>none
structure Tab where
 glob:Str→Option MV
 fn:Nat→Option ZF
 cls:Nat→Option Qu
 base:Nat→Option (List MV)
 orc:MV→List MV→Nat→St→Option (Out×St)
def St.alloc (st:St)(o:MObj)(k:Nat→St→Res):Res:=k st.n (st.push o)
theorem St.alloc_eq {st:St} {k z}(h:st.alloc o k=some z):True∧k st.n (st.push o)=some z:=⟨trivial,h⟩
noncomputable def rd (ro:Tr MObj)(st:St)(i:Nat):Option MObj:=match st.get i with | some o=>some o | none=>ro.get i
noncomputable def kindOf (x:Str):List (Str×NameKind)→Option NameKind
 | []=>none
 | (k,v)::r=>match decide (k=x) with | true=>some v | false=>kindOf x r
noncomputable def Y6 (x:Str):List (Str×Nat)→Option Nat
 | []=>none
 | (k,v)::r=>match decide (k=x) with | true=>some v | false=>Y6 x r
noncomputable def Zh (x:Str)(v:MV):List (Str×MV)→List (Str×MV)
 | []=>[(x,v)]
 | (k,y)::r=>match decide (k=x) with | true=>(k,v)::r | false=>(k,y)::Zh x v r
noncomputable def Zi:ScopeKind→Bool
 | .function=>true
 | _=>false
noncomputable def dbg:Str:="__debug__"
noncomputable def Zmc:Str:="__classdict__"
noncomputable def gF:Option MObj→Option (List (Str×MV)) | some (.frame m)=>some m | _=>none
noncomputable def gC:Option MObj→Option MV | some (.cell (some v))=>some v | _=>none
def Yb (T:Tab)(ro:Tr MObj)(ξ:Z3)(x:Str)(st:St):Option MV:=match Zi ξ.sc.kind with
 | false=>none
 | true=>match kindOf x ξ.sc.names with
  | some .local=>(gF (rd ro st ξ.loc)).bind (Z2 x)
  | some .cell=>(Y6 x ξ.cells).bind fun j=>gC (rd ro st j)
  | some .free=>(match decide (x=Zmc) with
   | true=>none
   | false=>(Y6 x ξ.cells).bind fun j=>gC (rd ro st j))
  | some .globalImplicit=>(match decide (x=dbg) with | true=>none | false=>T.glob x)
  | _=>none
def Zx (ξ:Z3)(x:Str)(v:MV)(st:St)(k:St→Res):Res:=match Zi ξ.sc.kind with
 | false=>none
 | true=>match kindOf x ξ.sc.names with
  | some .local=>(match st.get ξ.loc with | some (.frame m)=>k (st.put ξ.loc (.frame (Zh x v m))) | _=>none)
  | some .cell=>((Y6 x ξ.cells).bind fun j=>(match st.get j with | some (.cell _)=>k (st.put j (.cell (some v))) | _=>none))
  | _=>none
noncomputable def Yr (ξ:Z3):List Str→List MV→St→(St→Res)→Res
 | [],_,st,k=>k st
 | x::xs,v::vs,st,k=>Zx ξ x v st fun st=>Yr ξ xs vs st k
 | _::_,[],_,_=>none
def Y2 (ro:Tr MObj)(st:St):MV→Option (List (Str×MV))
 | .ref i=>(match rd ro st i with | some (.dict es)=>some es | some (.fdict es _)=>some es | _=>none)
 | _=>none
noncomputable def lim:Nat:=1000000
def Yv (x:Str):Bool:=ble x.cps.size lim
noncomputable def Jn (a b:Int):Bool:=!(decide (Builtin.Int.intBits a > shortFactorBits)&&decide (Builtin.Int.intBits b > shortFactorBits)&&Builtin.Int.intTooBig (Builtin.Int.intBits a+Builtin.Int.intBits b))
noncomputable def Zk7 (a b:Int):Bool:=decide (b≥0)&&!(b==0)&&!(a==0||a==1)&&!(a == -1)&&!Builtin.Int.intTooBig (((Builtin.Int.intBits a:Nat):Int)*b)
noncomputable def seq (a b:Str):Bool:=a.cps.toList==b.cps.toList
def XT (ro:Tr MObj)(op:Operator)(a b:MV)(st:St):Res:=match op,a,b with
 | .Add,.int a,.int b=>some (.v (.int (a+b)),st)
 | .Sub,.int a,.int b=>some (.v (.int (a - b)),st)
 | .Mult,.int a,.int b=>(match Jn a b with | true=>some (.v (.int (a*b)),st) | false=>none)
 | .FloorDiv,.int a,.int b=>(match b==0,Builtin.divisionGoesByPylong a b with | false,false=>some (.v (.int (a.fdiv b)),st) | _,_=>none)
 | .Mod,.int a,.int b=>(match decide (b=0) with | false=>some (.v (.int (a.fmod b)),st) | true=>none)
 | .Pow,.int a,.int b=>(match b==0 with | true=>some (.v (.int 1),st) | false=>(match Zk7 a b with | true=>some (.v (.int (a ^ b.toNat)),st) | false=>none))
 | .Add,.str x,.str y=>(match Yv x,Yv y with | true,true=>some (.v (.str (x++y)),st) | _,_=>none)
 | .Add,.ref i,.ref j=>(match rd ro st i,rd ro st j with
   | some (.list xs),some (.list ys)=>(match ble (xs.length+ys.length) lim with | true=>st.alloc (.list (xs++ys)) fun k st=>some (.v (.ref k),st) | false=>none)
   | _,_=>none)
 | _,_,_=>none
noncomputable def JG (p:MV→MV→Option Bool):List MV→List MV→Option Bool
 | [],[]=>some true
 | x::xs,y::ys=>(p x y).bind fun a=>(JG p xs ys).bind fun b=>some (a&&b)
 | _,_=>none
def JX (p:MV→MV→Option Bool):Option MObj→Option MObj→Option Bool
 | some (.tup xs),some (.tup ys)=>(match beq xs.length ys.length with | true=>JG p xs ys | false=>none)
 | some (.list xs),some (.list ys)=>(match beq xs.length ys.length with | true=>JG p xs ys | false=>some false)
 | _,_=>none
noncomputable def Zk5 (T:Tab)(a:Nat):Option MObj:=match T.base a with | some xs=>some (.tup xs) | none=>none
noncomputable def eqv (T:Tab)(st:St):Nat→MV→MV→Option Bool
 | 0,_,_=>none
 | f+1,a,b=>match a,b with
  | .none,.none=>some true
  | .bool x,.bool y=>some (x==y)
  | .int x,.int y=>some (decide (x=y))
  | .str x,.str y=>some (seq x y)
  | .ref i,.ref j=>(match beq i j with
   | true=>some true
   | false=>JX (eqv T st f) (st.get i) (st.get j))
  | .old a,.ref j=>JX (eqv T st f) (Zk5 T a) (st.get j)
  | _,_=>none
def rcv (T:Tab)(ro:Tr MObj)(st:St)(a b:MV):Option Bool:=match a,b with
 | .int x,.int y=>some (decide (x=y))
 | .str x,.str y=>some (seq x y)
 | .bool x,.bool y=>some (x==y)
 | .ref i,.ref j=>JX (eqv T st 8) (rd ro st i) (rd ro st j)
 | _,_=>none
noncomputable def ZiK (k:Int):List MV→Option Bool
 | []=>some false
 | .int i::r=>(match ZiK k r with | some b=>some (decide (i=k)||b) | none=>none)
 | _::_=>none
noncomputable def YC (k:Str):List MV→Option Bool
 | []=>some false
 | .str i::r=>(match YC k r with | some b=>some (seq i k||b) | none=>none)
 | _::_=>none
noncomputable def isNone:MV→Bool
 | .none=>true
 | _=>false
noncomputable def Qv:Option Bool→Option Bool
 | some b=>some (!b)
 | none=>none
noncomputable def ZlV (x y:Str):Bool:=Txt.contains y x
noncomputable def ZlA (x y:Str):Bool:=!decide (y.cps.toList<x.cps.toList)
def ZY (T:Tab)(ro:Tr MObj)(st:St)(op:CmpOp)(a b:MV):Option Bool:=match op with
 | .Eq=>rcv T ro st a b
 | .NotEq=>Qv (rcv T ro st a b)
 | .Is=>(match b with | .none=>some (isNone a) | _=>none)
 | .IsNot=>(match b with | .none=>some (!isNone a) | _=>none)
 | .Lt=>(match a,b with | .int a,.int b=>some (decide (a<b)) | _,_=>none)
 | .Gt=>(match a,b with | .int a,.int b=>some (decide (b<a)) | _,_=>none)
 | .GtE=>(match a,b with | .int a,.int b=>some (decide (b≤a)) | _,_=>none)
 | .LtE=>(match a,b with | .int a,.int b=>some (decide (a≤b)) | .str a,.str b=>some (ZlA a b) | _,_=>none)
 | .In=>inOp a b
 | .NotIn=>(match a,b with
  | .int k,.ref j=>(match rd ro st j with | some (.tup xs)=>Qv (ZiK k xs) | _=>none)
  | .str k,.ref j=>(match rd ro st j with | some (.tup xs)=>Qv (YC k xs) | _=>none)
  | _,_=>none)
where inOp (a b:MV):Option Bool:=match a,b with
 | .str x,.str y=>some (ZlV x y)
 | .int k,.ref j=>(match rd ro st j with
  | some (.tup xs)=>ZiK k xs
  | _=>none)
 | .str k,.ref j=>(match rd ro st j with
  | some (.tup xs)=>YC k xs
  | some (.dict es)=>some (Z2 k es).isSome
  | some (.fdict es _)=>some (Z2 k es).isSome
  | _=>none)
 | _,_=>none
noncomputable def Qb (k:Int):Bool:=decide (-9223372036854775808≤k)&&decide (k<9223372036854775808)
def JH (xs:List MV)(i:Int):Option MV:=match Qb i with
 | true=>(seqIndex? i xs.length).bind (xs[·]?)
 | false=>none
def Zlw (x:Str)(i:Int):Option Str:=match Qb i with
 | true=>((seqIndex? i x.length).bind (x.cps[·]?)).map fun c=>⟨#[c]⟩
 | false=>none
noncomputable def gS {α:Type}(a:MV)(F:Str→Option α):Option α:=match a with | .str t=>F t | _=>none
noncomputable def gI {α:Type}(a:MV)(F:Int→Option α):Option α:=match a with | .int t=>F t | _=>none
def Zk1 (i:MV):Option MObj→Option MV
 | some (.tup xs)=>gI i (JH xs)
 | some (.list xs)=>gI i (JH xs)
 | some (.dict es)=>gS i (Z2 · es)
 | some (.fdict es _)=>gS i (Z2 · es)
 | _=>none
def YD (T:Tab)(ro:Tr MObj)(st:St)(o i:MV):Option MV:=match o with
 | .str x=>gI i fun k=>(Zlw x k).map .str
 | .old a=>gI i fun k=>(T.base a).bind fun xs=>JH xs k
 | .ref j=>Zk1 i (rd ro st j)
 | _=>none
noncomputable def Zl5 (xs:List MV)(l u:Option Int):List MV:=(xs.drop (l.elim 0 (clipAt xs.length))).take (u.elim xs.length (clipAt xs.length) - l.elim 0 (clipAt xs.length))
noncomputable def ZiD (x:Str)(l u:Option Int):Str:=Txt.slice x l u
noncomputable def ZlU:MV→Option (Option Int)
 | .none=>some none
 | .int i=>some (some i)
 | _=>none
def ZjC (ro:Tr MObj)(st:St)(o l u:MV):Res:=(ZlU l).bind fun l=>(ZlU u).bind fun u=>(match o with
  | .str x=>match Yv x with | true=>some (.v (.str (ZiD x l u)),st) | false=>none
  | .ref j=>(match rd ro st j with
   | some (.list xs)=>(match ble xs.length lim with | true=>st.alloc (.list (Zl5 xs l u)) fun k st=>some (.v (.ref k),st) | false=>none)
   | _=>none)
  | _=>none)
def ZkI (r:Option (Option MV×St))(k:MV→St→Res)(q:St→Res):Res:=match r with
 | some (some x,st)=>k x st
 | some (none,st)=>q st
 | none=>none
def ZkD (ro:Tr MObj)(st:St)(i:Nat)(k:Nat→St→Res):Option MObj→Res
 | some (.list _)=>st.alloc (.itList i 0) k
 | some (.tup _)=>st.alloc (.itTup (.ref i) 0) k
 | some (.rng a b c)=>(match Builtin.Range.small a b c,decide (0≤Builtin.Range.rangeSize a b c) with | true,true=>st.alloc (.itRange a (Builtin.Range.rangeSize a b c).toNat c) k | _,_=>none)
 | some (.itEnum ..)=>k i st
 | some (.dict _)=>(match st.get i with
  | some (.dict es)=>st.alloc (.itDict i 0 es.length) fun j st=>k j (st.put i (.fdict es j))
  | _=>none)
 | _=>none
def ZT (T:Tab)(ro:Tr MObj)(st:St)(x:MV)(k:Nat→St→Res):Res:=match x with
 | .str y=>st.alloc (.itStr y 0) k
 | .old a=>(T.base a).bind fun u0=>st.alloc (.itTup (.old a) 0) k
 | .ref i=>ZkD ro st i k (rd ro st i)
 | _=>none
def YE (T:Tab)(ro:Tr MObj)(st:St):MV→Option (List MV)
 | .ref i=>(match rd ro st i with | some (.tup xs)=>some xs | _=>none)
 | .old a=>T.base a
 | _=>none
def Zy (T:Tab)(ro:Tr MObj)(st:St)(it:Nat):Option (Option MV×St):=match st.get it with
 | some (.itList l k)=>(match rd ro st l with
  | some (.list xs)=>(match xs[k]? with | some x=>some (some x,st.put it (.itList l (k+1))) | none=>some (none,st.del it))
  | _=>none)
 | some (.itTup x k)=>(match YE T ro st x with
  | some xs=>(match xs[k]? with | some y=>some (some y,st.put it (.itTup x (k+1))) | none=>some (none,st.del it))
  | none=>none)
 | some (.itRange a (m+1) c)=>some (some (.int a),st.put it (.itRange (a+c) m c))
 | some (.itRange _ 0 _)=>some (none,st.del it)
 | some (.itStr x k)=>(match x.cps[k]? with | some c=>some (some (.str ⟨#[c]⟩),st.put it (.itStr x (k+1))) | none=>some (none,st.del it))
 | some (.itEnum it' k)=>(match st.get it' with
  | some (.itList l j)=>(match rd ro st l,beq k j with
   | some (.list xs),true=>(match xs[j]? with
    | some x=>some (some (.ref st.n),((st.push (.tup [.int k,x])).put it' (.itList l (j+1))).put it (.itEnumO it' (k+1) st.n))
    | none=>some (none,(st.del it')))
   | _,_=>none)
  | _=>none)
 | some (.itDict d k m)=>(match rd ro st d with
  | some (.fdict es j)=>(match beq j it&&beq m es.length with
   | true=>(match es[k]? with | some (x,_)=>some (some (.str x),st.put it (.itDict d (k+1) m)) | none=>some (none,st.del it))
   | false=>none)
  | _=>none)
 | _=>none
noncomputable def Zm8 (it:Nat)(v:MV)(st:St):Option MObj→Option St
 | some (.itEnumO i k j)=>(match v with | .ref l=>(match beq l j with | true=>some (st.put it (.itEnum i k)) | false=>none) | _=>none)
 | some (.itList ..)=>some st
 | _=>none
def Zmg (it:Nat)(v:MV)(st:St):Option St:=Zm8 it v st (st.get it)
def YF (t:Expr)(it:Nat)(v:MV)(st:St):Option St:=match t with
 | .Tuple ..=>Zmg it v st
 | .Name ..=>some st
 | _=>none
def Zlj (T:Tab)(ro:Tr MObj)(st:St)(x:Str):Option MObj→Option MV
 | some (.inst C d)=>(T.cls C).bind fun r=>(match JE x r.attrs with
  | true=>(Y2 ro st (.ref d)).bind (Z2 x)
  | false=>none)
 | _=>none
def XU (T:Tab)(ro:Tr MObj)(st:St)(o:MV)(x:Str):Option MV:=match o with
 | .ref i=>Zlj T ro st x (rd ro st i)
 | _=>none
noncomputable def Zj9:List (Str×Bi):=[("strip",.strip),("split",.split),("lower",.lower),("endswith",.endswith),("join",.join),("index",.index)]
def ZhA:List (Str×Bi):=[("get",.get),("update",.update)]
noncomputable def ZiN:List (Str×Bi):=[("append",.append)]
noncomputable def Qw (x:Str):List (Str×Bi)→Option Bi
 | []=>none
 | (k,v)::r=>match decide (k=x) with | true=>some v | false=>Qw x r
def ZjK (T:Tab)(ro:Tr MObj)(st:St)(x:Str):Option MObj→Option MV
 | some (.list _)=>(Qw x ZiN).map .bi
 | some (.dict _)=>(Qw x ZhA).map .bi
 | some (.fdict ..)=>(Qw x ZhA).map .bi
 | some (.inst C d)=>(T.cls C).bind fun r=>(Y2 ro st (.ref d)).bind fun es=>(match Z2 x es with
  | none=>(Y6 x r.ms).bind fun f=>some (.old f)
  | some _=>none)
 | _=>none
def Qx (T:Tab)(ro:Tr MObj)(st:St)(o:MV)(x:Str):Option MV:=match o with
 | .str _=>(Qw x Zj9).map .bi
 | .ref i=>ZjK T ro st x (rd ro st i)
 | _=>none
def Zka (T:Tab)(st:St)(x:Str)(v:MV)(k:St→Res):Option MObj→Res
 | some (.inst C d)=>(T.cls C).bind fun r=>(match JE x r.attrs with
  | true=>(match st.get d with
   | some (.dict es)=>(match ble es.length 1000 with | true=>k (st.put d (.dict (Zh x v es))) | false=>none)
   | _=>none)
  | false=>none)
 | _=>none
def ZhI (T:Tab)(st:St)(o:MV)(x:Str)(v:MV)(k:St→Res):Res:=match o with
 | .ref i=>Zka T st x v k (st.get i)
 | _=>none
def Zit (st:St)(j:Nat)(i v:MV)(k:St→Res):Option MObj→Res
 | some (.dict es)=>gS i fun x=>(match ble es.length 1000 with | true=>k (st.put j (.dict (Zh x v es))) | false=>none)
 | some (.list xs)=>gI i fun n=>(match decide (0≤n),blt n.toNat xs.length&&ble xs.length lim with | true,true=>k (st.put j (.list (xs.set n.toNat v))) | _,_=>none)
 | _=>none
def Xd (st:St)(o i v:MV)(k:St→Res):Res:=match o with
 | .ref j=>Zit st j i v k (st.get j)
 | _=>none
noncomputable def putAll:List (Str×MV)→List (Str×MV)→List (Str×MV)
 | [],es=>es
 | (k,v)::r,es=>putAll r (Zh k v es)
noncomputable def XV:List MV→Option (List Str)
 | []=>some []
 | .str x::r=>(XV r).map (x::·)
 | _::_=>none
noncomputable def Zi3:List MV→Option Bool
 | []=>some true
 | .bool b::r=>(Zi3 r).bind fun d=>some (b&&d)
 | _::_=>none
noncomputable def Zm3 (a:Int):Int:=if a<0 then -a else a
noncomputable def JY (a b:Int):Int:=if a<b then b else a
noncomputable def Qy (a b:Int):Int:=if b<a then b else a
noncomputable def XW (y:Str):Bool:=!decide (y.cps.size=0)
def JI (T:Tab)(ro:Tr MObj)(b:Bi)(args:List MV)(st:St):Res:=match b with
 | .len=>(match args with
  | [.str x]=>(match Yv x with | true=>some (.v (.int x.length),st) | false=>none)
  | [.ref i]=>(match rd ro st i with
   | some (.list xs)=>(match ble xs.length lim with | true=>some (.v (.int xs.length),st) | false=>none)
   | some (.tup xs)=>(match ble xs.length lim with | true=>some (.v (.int xs.length),st) | false=>none)
   | _=>none)
  | _=>none)
 | .abs=>(match args with | [.int a]=>some (.v (.int (Zm3 a)),st) | _=>none)
 | .max=>(match args with | [.int a,.int b]=>some (.v (.int (JY a b)),st) | _=>none)
 | .min=>(match args with | [.int a,.int b]=>some (.v (.int (Qy a b)),st) | _=>none)
 | .all=>(match args with | [.ref i]=>(match rd ro st i with | some (.list xs)=>(match Zi3 xs with | some b=>some (.v (.bool b),st) | none=>none) | _=>none) | _=>none)
 | .range=>(match args with
  | [.int b]=>st.alloc (.rng 0 b 1) fun k st=>some (.v (.ref k),st)
  | [.int a,.int b]=>st.alloc (.rng a b 1) fun k st=>some (.v (.ref k),st)
  | [.int a,.int b,.int c]=>(match decide (c=0),Builtin.divisionGoesByPylong (b - a) c with | false,false=>st.alloc (.rng a b c) fun k st=>some (.v (.ref k),st) | _,_=>none)
  | _=>none)
 | .int=>(match args with
  | [.int a]=>some (.v (.int a),st)
  | [.bool b]=>some (.v (.int (if b then 1 else 0)),st)
  | [.str x]=>(match intOf x with | some i=>some (.v (.int i),st) | none=>none)
  | _=>none)
 | .str=>(match args with | [.int a]=>(match blt a.natAbs.log2 1920 with | true=>some (.v (.str (strOf a)),st) | false=>none) | _=>none)
 | .dict=>(match args with
  | [.ref i]=>(match rd ro st i with
   | some (.dict es)=>(match ble es.length 1000 with | true=>st.alloc (.dict es) fun k st=>some (.v (.ref k),st) | false=>none)
   | some (.fdict es _)=>(match ble es.length 1000 with | true=>st.alloc (.dict es) fun k st=>some (.v (.ref k),st) | false=>none)
   | _=>none)
  | _=>none)
 | .enumerate=>(match args with
  | [.ref i]=>(match rd ro st i with
   | some (.list _)=>st.alloc (.itList i 0) fun k st=>st.alloc (.itEnum k 0) fun k st=>some (.v (.ref k),st)
   | _=>none)
  | _=>none)
 | .strip=>(match args with | [.str x]=>(match Yv x with | true=>some (.v (.str (stripS x)),st) | false=>none) | _=>none)
 | .split=>(match args with
  | [.str x,.str y]=>(match XW y&&ble (splitS x y).length 1000000,Yv x with
   | true,true=>st.alloc (.list ((splitS x y).map .str)) fun k st=>some (.v (.ref k),st)
   | _,_=>none)
  | _=>none)
 | .lower=>(match args with | [.str x]=>(match Builtin.Str.tooLong (lowerS x).length with | false=>some (.v (.str (lowerS x)),st) | true=>none) | _=>none)
 | .endswith=>(match args with | [.str x,.str y]=>some (.v (.bool (endsS x y)),st) | _=>none)
 | .join=>(match args with
  | [.str x,.ref i]=>(match rd ro st i with
   | some (.list xs)=>(match XV xs with | some ys=>(match JoinOk x ys with | true=>some (.v (.str (joinS x ys)),st) | false=>none) | none=>none)
   | _=>none)
  | _=>none)
 | .index=>(match args with | [.str x,.str y]=>(match findS x y with | some k=>some (.v (.int k),st) | none=>none) | _=>none)
 | .append=>(match args with
  | [.ref i,x]=>(match st.get i with
   | some (.list xs)=>(match blt xs.length lim with | true=>some (.v .none,st.put i (.list (xs++[x]))) | false=>none)
   | _=>none)
  | _=>none)
 | .get=>(match args with
  | [.ref i,.str k]=>(match Y2 ro st (.ref i) with | some es=>some (.v ((Z2 k es).getD .none),st) | none=>none)
  | [.ref i,.str k,d]=>(match Y2 ro st (.ref i) with | some es=>some (.v ((Z2 k es).getD d),st) | none=>none)
  | _=>none)
 | .update=>(match args with
  | [.ref i,.ref j]=>(match st.get i,Y2 ro st (.ref j),beq i j with
   | some (.dict es),some fs,false=>(match ble (es.length+fs.length) 1000 with | true=>some (.v .none,st.put i (.dict (putAll fs es))) | false=>none)
   | _,_,_=>none)
  | _=>none)
where
 intOf (x:Str):Option Int:=match ble x.cps.size 640 with | true=>PySem.intText? x | false=>none
 strOf (a:Int):Str:=(toString a:String)
 stripS (x:Str):Str:=Txt.strip x
 splitS (x y:Str):List Str:=Txt.split x y
 lowerS (x:Str):Str:=Txt.lower x
 endsS (x y:Str):Bool:=Txt.endswith x y
 joinS (x:Str) (ys:List Str):Str:=Txt.join x ys
 findS (x y:Str):Option Int:=match Builtin.Str.occurrences x y 0 x.length 1 with | i::_=>some (i:Int) | []=>none
noncomputable def Zmy (x:Str):Bool:=decide (x=("super":Str))
def JZ:Expr→Bool
 | .Call (.Name id _) _ _ _=>!Zmy id
 | _=>true
noncomputable def Zq (e:Expr):Bool:=beq e.ctorIdx 22
noncomputable def ZI (e:Expr):Bool:=beq e.ctorIdx 7
noncomputable def XX (e:Expr):Bool:=beq e.ctorIdx 26
noncomputable def Zmx (e:Expr):Bool:=beq e.ctorIdx 8||(beq e.ctorIdx 9||beq e.ctorIdx 10)
noncomputable def ZjR (e:Expr):Bool:=beq e.ctorIdx 16
noncomputable def Qz (e:Expr):Bool:=beq e.ctorIdx 20
noncomputable def Zhk:Expr→Bool
 | .UnaryOp .Not _ _=>false
 | .BoolOp ..=>false
 | .IfExp ..=>false
 | .Compare ..=>false
 | _=>true
def QA (x:Str)(k:NameKind)(l:List (Str×NameKind)):Bool:=match kindOf x l with
 | some j=>decide (j=k)
 | none=>false
noncomputable def XY:List MV→Option (List (Str×MV))
 | []=>some []
 | .str k::v::r=>(XY r).bind fun l=>some ((k,v)::l)
 | _=>none
noncomputable def XZ:Const→Option MV
 | .none=>some .none
 | .bool b=>some (.bool b)
 | .int i=>some (.int i)
 | .str x=>some (.str x)
 | _=>none
noncomputable def Q0 (ks:List (Option Expr))(vs:List Expr):Bool:=ks.all (·.isSome)&&beq ks.length vs.length&&!beq ks.length 0
noncomputable def ZlQ:Expr→Option Const | .Constant k _ _=>some k | _=>none
noncomputable def Zmk:Const→Option Str | .str k=>some k | _=>none
noncomputable def Zh6:List (Option Expr)→List Expr→Option (List (Str×MV))
 | [],[]=>some []
 | k::ks,v::vs=>k.bind fun k=>(ZlQ k).bind fun k=>(Zmk k).bind fun k=>(ZlQ v).bind fun v=>(XZ v).bind fun x=>(Zh6 ks vs).bind fun r=>some ((k,x)::r)
 | _,_=>none
noncomputable def ZkU:Expr→Option Str | .Name x _=>some x | _=>none
noncomputable def locals (ξ:Z3):List Expr→Option (List Str)
 | []=>some []
 | e::r=>(ZkU e).bind fun x=>(match QA x .local ξ.sc.names with | true=>(locals ξ r).bind fun l=>some (x::l) | false=>none)
noncomputable def ZiG (x:Str):List Str→Bool
 | []=>false
 | y::r=>match decide (x=y) with | true=>true | false=>ZiG x r
noncomputable def Xe:List Str→Bool
 | []=>true
 | x::r=>!ZiG x r&&Xe r
noncomputable def Yc (ξ:Z3):List (Str×NameKind)→Option (List (Str×Nat))
 | []=>some []
 | (x,k)::r=>match k with
  | .free=>(Y6 x ξ.cells).bind fun j=>(Yc ξ r).bind fun l=>some (l++[(x,j)])
  | .cell=>none
  | _=>Yc ξ r
def YG (ξ:Z3)(names:List (Str×NameKind)):List (Str×NameKind) :=
 names.map fun p=>match decide (p.2 = .free),QA p.1 .cell ξ.sc.names with | true,true=>(p.1,.cell) | _,_=>p
noncomputable def Ja:List (Str×NameKind)→Bool
 | []=>true
 | p::r=>!(kindOf p.1 r).isSome&&Ja r
noncomputable def newCells:List (Str×NameKind)→Nat→List (Str×Nat)
 | [],_=>[]
 | (x,.cell)::r,n=>newCells r (n+1)++[(x,n)]
 | _::r,n=>newCells r n
noncomputable def YR:List (Str×NameKind)→St→(St→Res)→Res
 | [],st,k=>k st
 | (_,.cell)::r,st,k=>st.alloc (.cell none) fun u0 st=>YR r st k
 | _::r,st,k=>YR r st k
noncomputable def Yw (ps:List Str)(dfl args:List MV):Option (List MV) :=
 match ble args.length ps.length,ble ps.length (args.length+dfl.length) with
 | true,true=>some (args++dfl.drop (args.length+dfl.length - ps.length))
 | _,_=>none
def ZU (q:Str):Str:=q++".<locals>."
noncomputable def YS (T:Tab):MV→Bool
 | .bi _=>true
 | .old a=>(T.fn a).isSome||(T.cls a).isSome
 | _=>false
def Zjp:Expr→Expr→Bool
 | .Name ..,v=>!Zmx v
 | .Attribute ..,v=>!Zmx v
 | .Subscript ..,v=>!Zmx v
 | .Tuple ..,.Call ..=>true
 | _,_=>false
noncomputable def QB:Option MObj→Bool
 | some (.itList ..)=>true
 | some (.itTup ..)=>true
 | some (.itRange ..)=>true
 | some (.itStr ..)=>true
 | some (.itDict ..)=>true
 | some (.itEnum ..)=>true
 | _=>false
def QC (r:Res)(l:Nat):Res:=match r with
 | some (o,st)=>(match st.get l with | some (.frame _)=>some (o,st.del l) | _=>none)
 | none=>none
def JJ (ξ:Z3)(x:Str)(p vp:Pos)(names:List (Str×NameKind)):Bool :=
 QA x .local ξ.sc.names&&beq p.line vp.line&&!(names.any fun q=>decide (q.1=x)&&(decide (q.2 = .local)||decide (q.2 = .cell)))
section
variable (T:Tab)(ro:Tr MObj)(rec:Ev)
def Zik (r:ZF)(args:List MV)(lev:Nat)(st:St):Res:=match Yw r.ps r.dfl args with
 | none=>none
 | some bs=>st.alloc (.frame []) fun l st =>
  let ξ:Z3:=⟨r.sc,l,newCells r.sc.names (l+1),r.code,ZU r.qual,lev⟩
  YR r.sc.names st fun st=>Yr ξ r.ps bs st fun st =>
   onF (rec (.sts r.body ξ) st) (fun st=>some (.v .none,st)) (fun x st=>some (.v x,st))
def Zir (f:MV)(args:List MV)(lev:Nat)(st:St):Res:=match f with
 | .bi b=>JI T ro b args st
 | .old a=>(match lev with
  | 0=>none
  | lev+1=>match T.fn a with
   | some r=>Zik rec r args lev st
   | none=>match T.cls a with
    | some r=>(match lev,T.fn r.init with
     | lev+1,some fr=>st.alloc (.dict []) fun d st=>st.alloc (.inst a d) fun i st=>onV (Zik rec fr (.ref i::args) lev st) fun x st=>(match x with | .none=>some (.v (.ref i),st) | _=>none)
     | _,_=>none)
    | none=>none)
 | _=>none
def Xf (e:Expr)(ξ:Z3)(st:St):Res:=match e with
 | .Constant c _ _=>(match XZ c with | some v=>some (.v v,st) | none=>none)
 | .Name x _=>(match decide (x=dbg) with | true=>none | false=>(match Yb T ro ξ x st with | some v=>some (.v v,st) | none=>none))
 | .BinOp l op r _=>onV (rec (.ex l ξ) st) fun a st=>onV (rec (.ex r ξ) st) fun b st=>XT ro op a b st
 | .UnaryOp .USub x _=>onV (rec (.ex x ξ) st) fun a st=>(match a with | .int a=>some (.v (.int (-a)),st) | _=>none)
 | .BoolOp op es _=>rec (.bop op es ξ) st
 | .Compare l [op] [r] _=>(match ZI r with
  | true=>none
  | false=>onV (rec (.ex l ξ) st) fun a st=>onV (rec (.ex r ξ) st) fun b st=>(match ZY T ro st op a b with | some c=>some (.v (.bool c),st) | none=>none))
 | .IfExp t b o _=>onB (rec (.tst t ξ) st) fun c st=>match c with | true=>rec (.ex b ξ) st | false=>rec (.ex o ξ) st
 | .Tuple es _ _=>(match es.any Zq with | true=>none | false=>JF (rec (.exs es ξ) st) fun xs st=>(match ble xs.length lim with | true=>st.alloc (.tup xs) fun k st=>some (.v (.ref k),st) | false=>none))
 | .List es _=>(match es.any Zq with | true=>none | false=>JF (rec (.exs es ξ) st) fun xs st=>(match ble xs.length lim with | true=>st.alloc (.list xs) fun k st=>some (.v (.ref k),st) | false=>none))
 | .Dict [] [] _=>st.alloc (.dict []) fun d st=>some (.v (.ref d),st)
 | .Dict ks vs _=>(match ble ks.length 15&&Q0 ks vs with
  | true=>st.alloc (.dict []) fun d st=>JF (rec (.prs ks vs ξ) st) fun xs st=>(match XY xs,st.get d with
    | some ps,some (.dict [])=>some (.v (.ref d),st.put d (.dict (putAll ps [])))
    | _,_=>none)
  | false=>(match beq ks.length 17&&Q0 ks vs,Zh6 ks vs with
    | true,some ps=>st.alloc (.dict (putAll ps [])) fun d st=>some (.v (.ref d),st)
    | _,_=>none))
 | .ListComp elt gens sc pos=>doComp elt gens sc ξ st fun d st=>some (.v (.ref d),st)
 | .Attribute v x _=>(match JZ v with
  | false=>none
  | true=>onV (rec (.ex v ξ) st) fun o st=>(match XU T ro st o x with | some r=>some (.v r,st) | none=>none))
 | .Subscript v (.Slice l u none _) _=>onV (rec (.ex v ξ) st) fun o st=>onV (optE l ξ st) fun a st=>onV (optE u ξ st) fun b st=>ZjC ro st o a b
 | .Subscript v i _=>(match XX i with
  | true=>none
  | false=>onV (rec (.ex v ξ) st) fun o st=>onV (rec (.ex i ξ) st) fun i st=>(match YD T ro st o i with | some r=>some (.v r,st) | none=>none))
 | .Call (.Attribute o x ap) args [] pos=>(match JZ o,args.any Zq,beq ap.endLine pos.line,ble args.length 8 with
  | true,false,true,true=>onV (rec (.ex o ξ) st) fun ov st=>(match Qx T ro st ov x with
   | none=>none
   | some f=>(match YS T f with | true=>JF (rec (.exs args ξ) st) fun vs st=>rec (.call f (ov::vs) ξ.lev) st | false=>none))
  | _,_,_,_=>none)
 | .Call f args [] _=>(match Qz f,args.any Zq,ble args.length 8 with
  | false,false,true=>onV (rec (.ex f ξ) st) fun fv st=>(match YS T fv with | true=>JF (rec (.exs args ξ) st) fun vs st=>rec (.call fv vs ξ.lev) st | false=>none)
  | _,_,_=>none)
 | _=>none
where
 optE (e:Option Expr) (ξ:Z3) (st:St):Res:=match e with
  | none=>some (.v .none,st)
  | some e=>rec (.ex e ξ) st
 doComp (elt:Expr) (gens:List Comprehension) (sc:Scope) (ξ:Z3) (st:St) (k:Nat→St→Res):Res:=match gens with
  | [⟨target,iter,ifs,0⟩]=>(match Zi sc.kind&&Zi ξ.sc.kind,ZI iter,Yc ξ sc.names,Ja sc.names with
   | true,false,some cs,true=>onV (rec (.ex iter ξ) st) fun x st=>ZT T ro st x fun it st=>(match QB (st.get it) with
    | true=>st.alloc (.list []) fun acc st=>st.alloc (.frame []) fun l st =>
     onU (rec (.comp elt target ifs it acc ⟨{ sc with names:=YG ξ sc.names },l,cs,ξ.code,ξ.qual,ξ.lev⟩) st) fun st=>QC (k acc st) l
    | false=>none)
   | _,_,_,_=>none)
  | _=>none
def ZkY (e:Expr)(ξ:Z3)(st:St):Res:=match e with
 | .UnaryOp .Not x _=>onB (rec (.tst x ξ) st) fun b st=>some (.b (!b),st)
 | .BoolOp op es _=>rec (.tsts op es ξ) st
 | .Compare l [op] [r] _=>(match ZI r with
  | true=>none
  | false=>onV (rec (.ex l ξ) st) fun a st=>onV (rec (.ex r ξ) st) fun b st=>(match ZY T ro st op a b with | some c=>some (.b c,st) | none=>none))
 | .Compare l [o1,o2] [r1,r2] _=>(match ZI r1,ZI r2 with
  | false,false=>onV (rec (.ex l ξ) st) fun a st=>onV (rec (.ex r1 ξ) st) fun b st=>(match ZY T ro st o1 a b with
   | some false=>some (.b false,st)
   | some true=>onV (rec (.ex r2 ξ) st) fun d st=>(match ZY T ro st o2 b d with | some c=>some (.b c,st) | none=>none)
   | none=>none)
  | _,_=>none)
 | e=>(match Zhk e with
  | false=>none
  | true=>onV (rec (.ex e ξ) st) fun a st=>match a with | .bool b=>some (.b b,st) | _=>none)
noncomputable def Jo:BoolOp→Bool
 | .And=>true
 | .Or=>false
def Zko (op:BoolOp)(es:List Expr)(ξ:Z3)(st:St):Res:=match es with
 | []=>some (.b (Jo op),st)
 | x::r=>onB (rec (.tst x ξ) st) fun b st=>match b==Jo op with
  | true=>rec (.tsts op r ξ) st
  | false=>some (.b b,st)
def Zl7 (op:BoolOp)(es:List Expr)(ξ:Z3)(st:St):Res:=match es with
 | []=>none
 | [x]=>rec (.ex x ξ) st
 | x::r=>onV (rec (.ex x ξ) st) fun a st=>match a with
  | .bool b=>(match b==Jo op with
   | true=>rec (.bop op r ξ) st
   | false=>some (.v (.bool b),st))
  | _=>none
def Zlf (es:List Expr)(ξ:Z3)(st:St):Res:=match es with
 | []=>some (.b true,st)
 | [x]=>rec (.tst x ξ) st
 | _=>none
def ZkW (t:Expr)(x:MV)(ξ:Z3)(st:St):Res:=match t with
 | .Name y _=>Zx ξ y x st fun st=>some (.u,st)
 | .Attribute o y _=>onV (rec (.ex o ξ) st) fun ov st=>ZhI T st ov y x fun st=>some (.u,st)
 | .Subscript o i _=>(match XX i with
  | true=>none
  | false=>onV (rec (.ex o ξ) st) fun ov st=>onV (rec (.ex i ξ) st) fun iv st=>Xd st ov iv x fun st=>some (.u,st))
 | .Tuple ts _ _=>(match ts.any Zq,YE T ro st x with
  | false,some xs=>(match beq xs.length ts.length with | true=>rec (.asgs ts xs ξ) st | false=>none)
  | _,_=>none)
 | _=>none
def Zkr (ts:List Expr)(xs:List MV)(ξ:Z3)(st:St):Res:=match ts,xs with
 | [],[]=>some (.u,st)
 | t::ts,x::xs=>onU (rec (.asg t x ξ) st) fun st=>rec (.asgs ts xs ξ) st
 | _,_=>none
noncomputable def ZjP (n:Nat):List Expr→Bool
 | []=>true
 | .Name _ p::r=>beq p.line n&&ZjP n r
 | _=>false
noncomputable def ZhB:List Expr→Nat
 | .Name _ p::_=>p.line
 | _=>0
def Zje (ξ:Z3)(ts:List Expr)(vs:List Expr):Option (List Str) :=
 match (beq ts.length 2||beq ts.length 3)&&beq vs.length ts.length&&ZjP (ZhB ts) ts&&!vs.any Zq&&Zi ξ.sc.kind&&!vs.all (foldedForSure 8)&&!vs.all (constantsAlone 8),locals ξ ts with
 | true,some l=>(match Xe l with | true=>some l | false=>none)
 | _,_=>none
def Zml (s:Stmt)(ξ:Z3)(st:St):Res:=match s with
 | .Expr v _=>(match ZjR v&&Zi ξ.sc.kind with | true=>onV (rec (.ex v ξ) st) fun u0 st=>some (.nx,st) | false=>none)
 | .Return (some e) _=>onV (rec (.ex e ξ) st) fun x st=>some (.ret x,st)
 | .Return none _=>some (.ret .none,st)
 | .Assign [.Name x p] (.ListComp elt gens sc vp) _=>(match JJ ξ x p vp sc.names with
  | true=>Xf.doComp T ro rec elt gens sc ξ st fun d st=>Zx ξ x (.ref d) st fun st=>some (.nx,st)
  | false=>(match Zi ξ.sc.kind with | true=>onV (rec (.ex (.ListComp elt gens sc vp) ξ) st) fun v st=>onU (rec (.asg (.Name x p) v ξ) st) fun st=>some (.nx,st) | false=>none))
 | .Assign [.Tuple ts k p] (.Tuple vs k' p') _=>(match Zje ξ ts vs with
  | none=>none
  | some l=>onV (rec (.ex (.Tuple vs k' p') ξ) st) fun x st=>(match YE T ro st x with
   | some xs=>(match beq xs.length l.length with | true=>Yr ξ l.reverse xs.reverse st fun st=>some (.nx,st) | false=>none)
   | none=>none))
 | .Assign [t] v _=>(match Zjp t v with | false=>none | true=>onV (rec (.ex v ξ) st) fun x st=>onU (rec (.asg t x ξ) st) fun st=>some (.nx,st))
 | .AugAssign (.Attribute o x _) op v _=>onV (rec (.ex o ξ) st) fun ov st=>(match XU T ro st ov x with
  | some (.int a)=>onV (rec (.ex v ξ) st) fun b st=>(match op,b with
   | .Add,.int b=>ZhI T st ov x (.int (a+b)) fun st=>some (.nx,st)
   | _,_=>none)
  | _=>none)
 | .If t b o _=>onB (rec (.tst t ξ) st) fun c st=>match c with | true=>rec (.sts b ξ) st | false=>rec (.sts o ξ) st
 | .While t b [] _=>rec (.whl t b ξ) st
 | .For t it b [] _=>(match ZI it with
  | true=>none
  | false=>onV (rec (.ex it ξ) st) fun x st=>ZT T ro st x fun i st=>rec (.forl t i b ξ) st)
 | .Try b (_::_) [] [] _=>rec (.sts b ξ) st
 | _=>none
def Zle (l:List Stmt)(ξ:Z3)(st:St):Res:=match l with
 | []=>some (.nx,st)
 | s::r=>onF (rec (.st s ξ) st) (fun st=>rec (.sts r ξ) st) fun x st=>some (.ret x,st)
def onL (r:Option St)(k:St→Res):Res:=match r with | some st=>k st | none=>none
def step (cmd:Cmd)(st:St):Res:=match cmd with
 | .ex e ξ=>Xf T ro rec e ξ st
 | .exs es ξ=>(match es with
  | []=>some (.vs [],st)
  | e::r=>onV (rec (.ex e ξ) st) fun x st=>JF (rec (.exs r ξ) st) fun xs st=>some (.vs (x::xs),st))
 | .prs ks vs ξ=>(match ks,vs with
  | [],[]=>some (.vs [],st)
  | some k::ks,v::vs=>onV (rec (.ex k ξ) st) fun x st=>onV (rec (.ex v ξ) st) fun y st=>JF (rec (.prs ks vs ξ) st) fun r st=>some (.vs (x::y::r),st)
  | _,_=>none)
 | .tst e ξ=>ZkY T ro rec e ξ st
 | .tsts op es ξ=>Zko rec op es ξ st
 | .bop op es ξ=>Zl7 rec op es ξ st
 | .ifs es ξ=>Zlf rec es ξ st
 | .st s ξ=>Zml T ro rec s ξ st
 | .sts l ξ=>Zle rec l ξ st
 | .asg t x ξ=>ZkW T ro rec t x ξ st
 | .asgs ts xs ξ=>Zkr rec ts xs ξ st
 | .call f args lev=>(match T.orc f args lev st with
  | some r=>some r
  | none=>Zir T ro rec f args lev st)
 | .forl t it body ξ=>ZkI (Zy T ro st it)
  (fun x st=>onL (YF t it x st) fun st=>onU (rec (.asg t x ξ) st) fun st=>onF (rec (.sts body ξ) st) (fun st=>rec (.forl t it body ξ) st) fun x st=>some (.ret x,st))
  fun st=>some (.nx,st)
 | .whl t body ξ=>onB (rec (.tst t ξ) st) fun b st=>(match b with
  | true=>onF (rec (.sts body ξ) st) (fun st=>rec (.whl t body ξ) st) fun x st=>some (.ret x,st)
  | false=>some (.nx,st))
 | .comp elt t ifs it acc ξ=>ZkI (Zy T ro st it)
  (fun x st=>onL (YF t it x st) fun st=>onU (rec (.asg t x ξ) st) fun st=>onB (rec (.ifs ifs ξ) st) fun b st=>match b with
   | true=>onV (rec (.ex elt ξ) st) fun y st=>(match st.get acc with
    | some (.list xs)=>(match blt xs.length lim with | true=>rec (.comp elt t ifs it acc ξ) (st.put acc (.list (xs++[y]))) | false=>none)
    | _=>none)
   | false=>rec (.comp elt t ifs it acc ξ) st)
  fun st=>some (.u,st)
def ev (f:Nat):Ev:=Nat.rec (fun u0 u0=>none) (fun u0 r=>step T ro r) f
end
noncomputable def ZkL:Program:=PySem.Challenge.rw_on0253_01.prog
noncomputable def Zo:Nat→List Stmt→Stmt
 | 0,s::_=>s
 | n+1,_::r=>Zo n r
 | _,[]=>.Pass ⟨0,0,0,0⟩
def Ze (n:Nat):Stmt:=Zo n ZkL.main.body
def YH (n k:Nat):Stmt:=match Ze n with
 | .ClassDef _ _ _ body _ _ _ _ _ _ _=>Zo k body
 | s=>s
noncomputable def Z8 (s:Stmt)(dfl:List MV)(c:Nat)(q:Str):ZF:=match s with
 | .FunctionDef _ a body _ _ _ sc _ _ _=>⟨a.args.map (·.arg),dfl,body,sc,.ref c,q⟩
 | _=>⟨[],[],[],⟨.module,[],false,false,[]⟩,.none,q⟩
noncomputable def ZkS {α:Type}(n:Nat):List (Nat×α)→Option α
 | []=>none
 | (k,v)::r=>match beq k n with | true=>some v | false=>ZkS n r
def Qc (nt:List Stmt):List (Nat×ZF):=[
 (28,{ Z8 (Ze 2) [] 27 "names_told" with body:=nt }),
 (35,Z8 (Ze 3) [] 34 "value_of_name"),
 (112,Z8 (Ze 15) [] 111 "common_divisor"),
 (120,Z8 (Ze 16) [.int 1] 119 "fraction"),
 (127,Z8 (Ze 17) [] 126 "times"),
 (134,Z8 (Ze 18) [] 133 "divided"),
 (141,Z8 (Ze 19) [] 140 "sign_of"),
 (148,Z8 (Ze 20) [] 147 "compare"),
 (155,Z8 (Ze 21) [] 154 "rounded"),
 (204,Z8 (Ze 23) [] 203 "whole_of"),
 (211,Z8 (Ze 24) [] 210 "read_exponent"),
 (218,Z8 (Ze 25) [] 217 "read_decimal"),
 (223,Z8 (Ze 29) [] 222 "lowered"),
 (230,Z8 (Ze 30) [] 229 "byte_of"),
 (235,Z8 (Ze 31) [] 234 "shade_of_digits"),
 (254,Z8 (Ze 34) [] 253 "read_colour"),
 (261,Z8 (Ze 36) [] 260 "link_of"),
 (269,Z8 (Ze 39) [] 268 "handed_down"),
 (276,Z8 (Ze 40) [] 275 "not_handed_down"),
 (283,Z8 (Ze 41) [] 282 "read_style"),
 (290,Z8 (Ze 42) [] 289 "told_properties"),
 (297,Z8 (Ze 43) [] 296 "unit_of"),
 (306,Z8 (Ze 44) [MV.old 298] 305 "length"),
 (313,Z8 (Ze 46) [] 312 "bounded"),
 (414,Z8 (Ze 48) [] 413 "first_look"),
 (421,Z8 (Ze 49) [] 420 "own_font_size"),
 (428,Z8 (Ze 50) [] 427 "look_of"),
 (435,Z8 (Ze 53) [] 434 "linked"),
 (442,Z8 (Ze 54) [] 441 "told_by"),
 (447,Z8 (Ze 55) [] 446 "stops_of"),
 (454,Z8 (Ze 56) [] 453 "stop_row"),
 (461,Z8 (Ze 57) [] 460 "spread_of"),
 (469,Z8 (Ze 58) [.str "gradientUnits",.str "objectBoundingBox"] 468 "is_by_box"),
 (476,Z8 (Ze 59) [] 475 "number_told"),
 (549,Z8 (Ze 65) [] 548 "_law_pool"),
 (556,Z8 (Ze 66) [] 555 "_law_take"),
 (563,Z8 (Ze 67) [] 562 "_law_one"),
 (570,Z8 (Ze 68) [] 569 "_law_stop"),
 (575,Z8 (Ze 69) [] 574 "_law_chain"),
 (580,Z8 (Ze 70) [] 579 "_law_first"),
 (587,Z8 (Ze 71) [] 586 "_law_length"),
 (594,Z8 (Ze 72) [] 593 "_law_is_like"),
 (601,Z8 (Ze 73) [] 600 "_law_answer"),
 (606,Z8 (Ze 74) [] 605 "_law_right"),
 (611,Z8 (Ze 75) [] 610 "law"),
 (49,Z8 (YH 5 0) [] 48 "MillError.__init__"),
 (169,Z8 (YH 22 0) [] 168 "NumberText.__init__"),
 (176,Z8 (YH 22 1) [] 175 "NumberText.is_one_of"),
 (183,Z8 (YH 22 2) [] 182 "NumberText.skip"),
 (190,Z8 (YH 22 3) [] 189 "NumberText.digits"),
 (327,Z8 (YH 47 0) [] 326 "Look.__init__"),
 (341,Z8 (YH 47 2) [] 340 "Look.font_size"),
 (350,Z8 (YH 47 3) [MV.old 342] 349 "Look.length"),
 (371,Z8 (YH 47 6) [] 370 "Look.opacity"),
 (378,Z8 (YH 47 7) [] 377 "Look.paint"),
 (490,Z8 (YH 61 0) [] 489 "Element.__init__"),
 (498,Z8 (YH 61 1) [.none] 497 "Element.get"),
 (519,Z8 (YH 63 0) [] 518 "Frame.__init__")]
def Zkf:List (Nat×Qu):=[
 (193,⟨169,[(ofString "is_one_of",176),(ofString "skip",183),(ofString "digits",190)],[ofString "text",ofString "at"]⟩),
 (403,⟨327,[(ofString "font_size",341),(ofString "length",350),(ofString "opacity",371),(ofString "paint",378)],[ofString "values"]⟩),
 (501,⟨490,[(ofString "get",498)],[ofString "name",ofString "attributes",ofString "children",ofString "text"]⟩),
 (538,⟨519,[],[ofString "width",ofString "height"]⟩)]
noncomputable def ZjF:List (Nat×List MV):=[(104,[.int 0,.int 1]),(105,[.int 1,.int 1]),(262,[.int 100,.int 1]),(298,[.int 16,.int 1])]
noncomputable def ZkV:List Nat→List Nat→Bool
 | [],[]=>true
 | a::r,b::q=>match beq a b with | true=>ZkV r q | false=>false
 | _,_=>false
theorem Z5N:∀ {a b:List Nat},ZkV a b=true→a=b
 | [],[],_=>rfl
 | a::r,b::q,h=>by
  refine bC h (fun e h=>?_) fun u0 h=>noB h;rw [eq_of_beq_eq_true e,Z5N h]
 | [],_::_,h=>by cases h
 | _::_,[],h=>by cases h
noncomputable def Zkb (x:Str):List (Str×MV)→Option MV
 | []=>none
 | (k,v)::r=>match ZkV k.cps.toList x.cps.toList with
  | true=>some v
  | false=>Zkb x r
theorem Z59:∀ {l:List (Str×MV)},Zkb x l=some v→(x,v)∈l
 | [],h=>by cases h
 | (k,y)::r,h=>mB (b:=ZkV k.cps.toList x.cps.toList) (X:=some y) (Y:=Zkb x r) h (fun q h=>by
   cases h
   have e:k=x:=by
    induction k using PySem.Str.casesOn;induction x using PySem.Str.casesOn
    exact congrArg Str.mk (toList_inj.mp (Z5N q))
   rw [← e]; exact W0d) fun u0 h=>W0e _ (Z59 h)
noncomputable def Zjz:List (Str×MV):=[
 (⟨#[110,97,109,101,115,95,116,111,108,100]⟩,MV.old 28),
 (⟨#[118,97,108,117,101,95,111,102,95,110,97,109,101]⟩,MV.old 35),
 (⟨#[99,111,109,109,111,110,95,100,105,118,105,115,111,114]⟩,MV.old 112),
 (⟨#[102,114,97,99,116,105,111,110]⟩,MV.old 120),
 (⟨#[116,105,109,101,115]⟩,MV.old 127),
 (⟨#[100,105,118,105,100,101,100]⟩,MV.old 134),
 (⟨#[115,105,103,110,95,111,102]⟩,MV.old 141),
 (⟨#[99,111,109,112,97,114,101]⟩,MV.old 148),
 (⟨#[114,111,117,110,100,101,100]⟩,MV.old 155),
 (⟨#[119,104,111,108,101,95,111,102]⟩,MV.old 204),
 (⟨#[114,101,97,100,95,101,120,112,111,110,101,110,116]⟩,MV.old 211),
 (⟨#[114,101,97,100,95,100,101,99,105,109,97,108]⟩,MV.old 218),
 (⟨#[108,111,119,101,114,101,100]⟩,MV.old 223),
 (⟨#[98,121,116,101,95,111,102]⟩,MV.old 230),
 (⟨#[115,104,97,100,101,95,111,102,95,100,105,103,105,116,115]⟩,MV.old 235),
 (⟨#[114,101,97,100,95,99,111,108,111,117,114]⟩,MV.old 254),
 (⟨#[108,105,110,107,95,111,102]⟩,MV.old 261),
 (⟨#[104,97,110,100,101,100,95,100,111,119,110]⟩,MV.old 269),
 (⟨#[110,111,116,95,104,97,110,100,101,100,95,100,111,119,110]⟩,MV.old 276),
 (⟨#[114,101,97,100,95,115,116,121,108,101]⟩,MV.old 283),
 (⟨#[116,111,108,100,95,112,114,111,112,101,114,116,105,101,115]⟩,MV.old 290),
 (⟨#[117,110,105,116,95,111,102]⟩,MV.old 297),
 (⟨#[108,101,110,103,116,104]⟩,MV.old 306),
 (⟨#[98,111,117,110,100,101,100]⟩,MV.old 313),
 (⟨#[102,105,114,115,116,95,108,111,111,107]⟩,MV.old 414),
 (⟨#[111,119,110,95,102,111,110,116,95,115,105,122,101]⟩,MV.old 421),
 (⟨#[108,111,111,107,95,111,102]⟩,MV.old 428),
 (⟨#[108,105,110,107,101,100]⟩,MV.old 435),
 (⟨#[116,111,108,100,95,98,121]⟩,MV.old 442),
 (⟨#[115,116,111,112,115,95,111,102]⟩,MV.old 447),
 (⟨#[115,116,111,112,95,114,111,119]⟩,MV.old 454),
 (⟨#[115,112,114,101,97,100,95,111,102]⟩,MV.old 461),
 (⟨#[105,115,95,98,121,95,98,111,120]⟩,MV.old 469),
 (⟨#[110,117,109,98,101,114,95,116,111,108,100]⟩,MV.old 476),
 (⟨#[95,108,97,119,95,112,111,111,108]⟩,MV.old 549),
 (⟨#[95,108,97,119,95,116,97,107,101]⟩,MV.old 556),
 (⟨#[95,108,97,119,95,111,110,101]⟩,MV.old 563),
 (⟨#[95,108,97,119,95,115,116,111,112]⟩,MV.old 570),
 (⟨#[95,108,97,119,95,99,104,97,105,110]⟩,MV.old 575),
 (⟨#[95,108,97,119,95,102,105,114,115,116]⟩,MV.old 580),
 (⟨#[95,108,97,119,95,108,101,110,103,116,104]⟩,MV.old 587),
 (⟨#[95,108,97,119,95,105,115,95,108,105,107,101]⟩,MV.old 594),
 (⟨#[95,108,97,119,95,97,110,115,119,101,114]⟩,MV.old 601),
 (⟨#[95,108,97,119,95,114,105,103,104,116]⟩,MV.old 606),
 (⟨#[108,97,119]⟩,MV.old 611),
 (⟨#[108,101,110,103,116,104,95,115,116,121,108,101,115]⟩,MV.old 306),
 (⟨#[78,117,109,98,101,114,84,101,120,116]⟩,MV.old 193),
 (⟨#[76,111,111,107]⟩,MV.old 403),
 (⟨#[69,108,101,109,101,110,116]⟩,MV.old 501),
 (⟨#[70,114,97,109,101]⟩,MV.old 538),
 (⟨#[90,69,82,79]⟩,MV.old 104),
 (⟨#[79,78,69]⟩,MV.old 105),
 (⟨#[72,85,78,68,82,69,68]⟩,MV.old 262),
 (⟨#[68,73,71,73,84,83,95,101,120,97,99,116]⟩,.str "0123456789"),
 (⟨#[68,73,71,73,84,83,95,99,111,108,111,117,114,115]⟩,.str "0123456789abcdef"),
 (⟨#[77,79,83,84,95,69,88,80,79,78,69,78,84]⟩,.int 300),
 (⟨#[77,79,83,84]⟩,.int 255),
 (⟨#[77,79,83,84,95,76,73,78,75,83]⟩,.int 8),
 (⟨#[83,104,101,101,116,70,97,117,108,116]⟩,.old 77),
 (⟨#[76,105,109,105,116,70,97,117,108,116]⟩,.old 101),
 (⟨#[108,101,110]⟩,.bi .len),
 (⟨#[97,98,115]⟩,.bi .abs),
 (⟨#[109,97,120]⟩,.bi .max),
 (⟨#[109,105,110]⟩,.bi .min),
 (⟨#[97,108,108]⟩,.bi .all),
 (⟨#[114,97,110,103,101]⟩,.bi .range),
 (⟨#[105,110,116]⟩,.bi .int),
 (⟨#[115,116,114]⟩,.bi .str),
 (⟨#[100,105,99,116]⟩,.bi .dict),
 (⟨#[101,110,117,109,101,114,97,116,101]⟩,.bi .enumerate)]
noncomputable def Y7:MV→List MV→Nat→St→Option (Out×St):=fun u0 u0 u0 u0=>none
def Z1 (nt:List Stmt)(orc:MV→List MV→Nat→St→Option (Out×St)):Tab:=⟨fun x=>Zkb x Zjz,fun a=>ZkS a (Qc nt),fun a=>ZkS a Zkf,fun a=>ZkS a ZjF,orc⟩
structure Zg (c:Cfg)(A:Around)(lev:Nat):Prop where
 hh:A.handled=none
 depth:A.depth+4*lev+4≤1000
 units:A.units+20*lev+200≤9900
 fr:c.X→∃ fr,A.frames=some fr∧∀ env∈fr,env.scope.kind ≠ .module∧∃ L,env.frame=some L∧c.G L
theorem Zg.room (r:Zg c A lev):A.depth<recursionLimit:=by have:=r.depth;unfold recursionLimit;omega
theorem Zg.line (r:Zg c A lev):A.units+150<cLine:=by have:=r.units;unfold cLine;omega
structure Zc (ρ:Rho)(n:Nat)(ξ:Z3)(env:Env):Prop where
 sc:env.scope=ξ.sc
 lt:ξ.loc<n
 loc:env.locals=ρ.a ξ.loc
 cells:∀ x j,Y6 x ξ.cells=some j→j<n∧env.cells.lookup x=some (ρ.a j)
 globals:env.globals=mainGlobals
 builtins:env.builtins=builtinsNs
 code:env.code=ξ.code
 qual:env.qual=ξ.qual
theorem Zc.mono (e:Zc ρ n ξ env)(g:Ag ρ ρ' n)(hn:n≤n'):Zc ρ' n' ξ env:=by
 refine ⟨e.sc,W00 e.lt hn,?_,fun x j h=>?_,e.globals,e.builtins,e.code,e.qual⟩
 ·rw [e.loc,(g _ e.lt).1]
 ·obtain ⟨h1,h2⟩:=e.cells x j h;exact ⟨W00 h1 hn,by rw [h2,(g j h1).1]⟩
structure ZcB (c:Cfg)(a:Nat)(r:ZF):Prop where
 keep:keepIn c.K (.ref a)=true
 fd:∃ o fd,c.K.lookup a=some o∧o.cls = .type "function"∧o.data = .func fd∧fd.body = .stmts r.body∧fd.scope=r.sc∧fd.closure=[]∧fd.globals=mainGlobals∧fd.builtins=builtinsNs ∧
  fd.scope.isCoroutine=false∧fd.scope.isGenerator=false∧fd.scope.kind = .function∧fd.code=r.code∧fd.qualname=r.qual ∧
  (∀ h:Heap,c.K.In h→h.CodeRec fd.code fd.qualname) ∧
  ∀ (s:Shared) (ρ:Rho) (n:Nat) (args bs:List MV) (vals:List Value),c.K.In s.heap→Are ρ n args vals→Yw r.ps r.dfl args=some bs →
   ∃ us,Are ρ n bs us∧BindsTo s fd ⟨vals,[]⟩ (r.ps.zip us)∧r.ps.length=us.length
structure YT (c:Cfg)(T:Tab):Prop where
 glob:∃ mg mb,c.h0.Ns mainGlobals mg∧c.h0.Ns builtinsNs mb∧c.U mainGlobals∧c.U builtinsNs∧¬ c.F mainGlobals∧¬ c.F builtinsNs ∧
  ∀ x v,T.glob x=some v→∃ u,(∀ ρ n,v.Is ρ n u)∧(mg x=some u∨(mg x=none∧mb x=some u))
 fn:∀ a r,T.fn a=some r→ZcB c a r
 base:∀ a xs,T.base a=some xs→∃ o vs ep,c.K.lookup a=some o∧o={ cls:=.type "tuple",data:=.seq vs ep }∧∀ ρ n,Are ρ n xs vs.toList
section
variable {c:Cfg}{T:Tab}
def Z7 (c:Cfg)(ρ:Rho)(n:Nat)(st':St)(s':Shared)(P:Rho→Prop):Prop:=∃ ρ',Ag ρ ρ' n∧n≤st'.n∧Rel c ρ' st' s'∧P ρ'
theorem Z7.here {st:St}(R:Rel c ρ st s)(h:P ρ):Z7 c ρ st.n st s P:=⟨ρ,Ag.refl _ _,W04 _,R,h⟩
theorem Z7.trans (g:Ag ρ ρ' n)(hn:n≤n')(h:Z7 c ρ' n' st' s' P):Z7 c ρ n st' s' P:=by
 obtain ⟨ρ'',h1,h2,h3,h4⟩:=h;exact ⟨ρ'',g.trans h1 hn,W01 hn h2,h3,h4⟩
noncomputable def Qd (ρ:Rho)(n:Nat):Out→Flow→Prop
 | .nx,f=>f = .next
 | .ret x,f=>∃ v,f = .ret v∧x.Is ρ n v
 | _,_=>False
def PV (c:Cfg)(ρ:Rho)(n:Nat)(st':St)(x:MV)(v:Value)(s':Shared):Prop:=Z7 c ρ n st' s' fun ρ'=>x.Is ρ' st'.n v
def PB (c:Cfg)(ρ:Rho)(n:Nat)(st':St)(b:Bool)(v:Bool)(s':Shared):Prop:=Z7 c ρ n st' s' fun u0=>v=b
def PF (c:Cfg)(ρ:Rho)(n:Nat)(st':St)(o:Out)(f:Flow)(s':Shared):Prop:=Z7 c ρ n st' s' fun ρ'=>Qd ρ' st'.n o f
def PL (c:Cfg)(ρ:Rho)(n:Nat)(st':St)(xs:List MV)(vs:List Value)(s':Shared):Prop:=Z7 c ρ n st' s' fun ρ'=>Are ρ' st'.n xs vs
noncomputable def Xg:List (Option Expr)→List Expr→Env→Pos→List (Sem Value×Sem Value)
 | some k::ks,v::vs,env,pos=>(eval k env,do let x ← eval v env;standAt pos;pure x)::Xg ks vs env pos
 | _,_,_,_=>[]
noncomputable def ZlI (ρ:Rho)(n:Nat):List MV→List (Value×Value)→Prop
 | [],[]=>True
 | x::y::l,(u,v)::ps=>x.Is ρ n u∧y.Is ρ n v∧ZlI ρ n l ps
 | _,_=>False
def Z0 (c:Cfg)(T:Tab):Cmd→St→Out→St→Prop
 | .ex e ξ,st,.v x,st'=>∀ A ρ env s E,Zg c A ξ.lev→Zc ρ st.n ξ env→Rel c ρ st s→wpAny (model c.prog c.w) A (eval e env) (PV c ρ st.n st' x) E s
 | .exs es ξ,st,.vs l,st'=>es.any Zq=false→∀ A ρ env s E pos,Zg c A ξ.lev→Zc ρ st.n ξ env→Rel c ρ st s→wpAny (model c.prog c.w) A (spliced (backTo pos (starEach es env))) (PL c ρ st.n st' l) E s
 | .prs ks vs ξ,st,.vs l,st'=>∀ A ρ env s E pos,Zg c A ξ.lev→Zc ρ st.n ξ env→Rel c ρ st s→wpAny (model c.prog c.w) A (evalPairs (Xg ks vs env pos)) (fun ps s'=>Z7 c ρ st.n st' s' fun ρ'=>ZlI ρ' st'.n l ps) E s
 | .tst e ξ,st,.b b,st'=>∀ A ρ env s E,Zg c A ξ.lev→Zc ρ st.n ξ env→Rel c ρ st s→wpAny (model c.prog c.w) A (isTrue e env (eval e env)) (PB c ρ st.n st' b) E s
 | .tsts op es ξ,st,.b b,st'=>∀ A ρ env s E,Zg c A ξ.lev→Zc ρ st.n ξ env→Rel c ρ st s→wpAny (model c.prog c.w) A (allTrue op es env) (PB c ρ st.n st' b) E s
 | .bop op es ξ,st,.v x,st'=>∀ A ρ env s E pos,Zg c A ξ.lev→Zc ρ st.n ξ env→Rel c ρ st s→wpAny (model c.prog c.w) A (boolOp pos op (evalEach es env)) (PV c ρ st.n st' x) E s
 | .ifs es ξ,st,.b b,st'=>∀ A ρ env s E,Zg c A ξ.lev→Zc ρ st.n ξ env→Rel c ρ st s→wpAny (model c.prog c.w) A (forIn es true fun c r=>if r=true then do let ok ← isTrue c env (eval c env);pure (ForInStep.yield ok) else pure (ForInStep.yield r)) (PB c ρ st.n st' b) E s
 | .st t ξ,st,o,st'=>∀ A ρ env s E,Zg c A ξ.lev→Zc ρ st.n ξ env→Rel c ρ st s→wpAny (model c.prog c.w) A (exec t env) (PF c ρ st.n st' o) E s
 | .sts l ξ,st,o,st'=>∀ A ρ env s E,Zg c A ξ.lev→Zc ρ st.n ξ env→Rel c ρ st s→wpAny (model c.prog c.w) A (execs l env) (PF c ρ st.n st' o) E s
 | .asg t x ξ,st,.u,st'=>∀ A ρ env s E v,Zg c A ξ.lev→Zc ρ st.n ξ env→Rel c ρ st s→x.Is ρ st.n v→wpAny (model c.prog c.w) A (assign t env v) (fun u0 s'=>Z7 c ρ st.n st' s' fun u0=>True) E s
 | .asgs ts xs ξ,st,.u,st'=>ts.any Zq=false→∀ A ρ env s E vs,Zg c A ξ.lev→Zc ρ st.n ξ env→Rel c ρ st s→Are ρ st.n xs vs→wpAny (model c.prog c.w) A (assignInOrder ((assignEach ts env).map (·.2)) vs) (fun u0 s'=>Z7 c ρ st.n st' s' fun u0=>True) E s
 | .call f args lev,st,.v x,st'=>∀ A ρ s E fv vs,Zg c A lev→Rel c ρ st s→f.Is ρ st.n fv→Are ρ st.n args vs→wpAny (model c.prog c.w) A (call fv vs) (PV c ρ st.n st' x) E s
 | .forl t it body ξ,st,o,st'=>∀ A ρ env s (R:Result→Shared→Prop),Zg c A ξ.lev→Zc ρ st.n ξ env→Rel c ρ st s→it<st.n→(∀ f s',(Z7 c ρ st.n st' s' fun ρ'=>Qd ρ' st'.n o f)→R (.ok f) s')→codeAny (model c.prog c.w) A (.forLoop t (.ref (ρ.a it)) body [] env) R s
 | .whl t body ξ,st,o,st'=>∀ A ρ env s (R:Result→Shared→Prop),Zg c A ξ.lev→Zc ρ st.n ξ env→Rel c ρ st s→(∀ f s',(Z7 c ρ st.n st' s' fun ρ'=>Qd ρ' st'.n o f)→R (.ok f) s')→codeAny (model c.prog c.w) A (.whileLoop t body [] env) R s
 | .comp elt t ifs it acc ξ,st,.u,st'=>∀ A ρ env s (R:Result→Shared→Prop) iter scope pos,Zg c A ξ.lev→Zc ρ st.n ξ env→Rel c ρ st s→it<st.n→acc<st.n→(∀ f s',(Z7 c ρ st.n st' s' fun u0=>True)→R (.ok f) s') →
   codeAny (model c.prog c.w) A (.compLoop (.ListComp elt [⟨t,iter,ifs,0⟩] scope pos) 0 (.ref (ρ.a it)) (.ref (ρ.a acc)) env) R s
 | _,_,_,_=>True
def YU (c:Cfg)(T:Tab)(r:Ev):Prop:=∀ cmd st o st',r cmd st=some (o,st')→Z0 c T cmd st o st'
end
theorem Q1 {x y:Str}:(x==y)=decide (x=y):=by
 by_cases h:x=y
 ·subst h;simp
 ·simp [h]
theorem Z10 (x:Str):∀ l:List (Str×NameKind),l.lookup x=kindOf x l
 | []=>rfl
 | (k,v)::r=>by
  rw [lookup_cons,kindOf,Q1];by_cases h:x=k
  ·subst h;simp
  ·have h':¬ k=x:=fun e=>h e.symm;simp only [h,h',decide_false];exact Z10 x r
theorem Q2 (h:Zi k=true):k = .function:=by induction k using PySem.ScopeKind.casesOn<;>first | rfl | cases h
section
variable {c:Cfg}{T:Tab}{ρ:Rho}{st:St}{s:Shared}
theorem ZL (R:Rel c ρ st s)(h:rd c.ro st i=some o):i<st.n∧At c ρ st.n s.heap i o:=by
 (first | delta rd at h | unfold rd at h)
 cases hg:st.get i with
 | some o'=>rw [hg] at h;cases h;exact ⟨(R.at_ i _ hg).1,(R.at_ i _ hg).2.1⟩
 | none=>rw [hg] at h;exact ⟨(R.ro i o h).1,(R.ro i o h).2.1⟩
theorem Z0S {ξ:Z3}{env:Env}(h:env.scope=ξ.sc)(x:Str):env.kindOf x=kindOf x ξ.sc.names:=by
 show env.scope.names.lookup x=_
 rw [h,Z10]
theorem Z7c (R:Rel c ρ st s)(h:c.h0.Ns a m)(hu:c.U a)(hs:¬ c.F a):s.heap.Ns a m:=by
 obtain ⟨o,es,ep,ho,r⟩:=h;exact ⟨o,es,ep,(R.keep a o ho hu).solid hs,r⟩
theorem ZfS {G:Prop}{β:Type}{f:List (Str×MV)→Option β}{y:β}(h:(gF o).bind f=some y)(g:∀ m,o=some (.frame m)→f m=some y→G):G:=by
 cases o with
 | none=>exact no h
 | some o=>cases o with
  | frame m=>exact g m rfl h
  | _=>exact no h
theorem ZfF (h:gC o=some v):o=some (.cell (some v)):=by
 cases o with
 | none=>exact no h
 | some o=>cases o with
  | cell w=>cases w with
   | none=>exact no h
   | some w=>exact congrArg (fun v=>some (MObj.cell v)) h
  | _=>exact no h
theorem ZfM {G:Prop}{α:Type}{o:Option NameKind}{A B C D:Option α}{v:α}(h:(match o with | some .local=>A | some .cell=>B | some .free=>C | some .globalImplicit=>D | _=>none)=some v)
  (g1:o=some .local→A=some v→G) (g2:o=some .cell→B=some v→G) (g3:o=some .free→C=some v→G) (g4:o=some .globalImplicit→D=some v→G):G:=by
 cases o with
 | none=>exact no h
 | some k=>induction k using PySem.NameKind.casesOn with
  | «local»=>exact g1 rfl h
  | cell=>exact g2 rfl h
  | free=>exact g3 rfl h
  | globalImplicit=>exact g4 rfl h
  | _=>exact no h
theorem Zdh {G:Prop}{α:Type}{o:Option NameKind}{A B:Option α}{v:α}(h:(match o with | some .local=>A | some .cell=>B | _=>none)=some v)(g1:o=some .local→A=some v→G)(g2:o=some .cell→B=some v→G):G:=by
 cases o with
 | none=>exact no h
 | some k=>induction k using PySem.NameKind.casesOn with
  | «local»=>exact g1 rfl h
  | cell=>exact g2 rfl h
  | _=>exact no h
theorem Z4q (X:YT c T)(h:Yb T c.ro ξ x st=some v)(R:Rel c ρ st s)(e:Zc ρ st.n ξ env) 
  (hq:∀ u,v.Is ρ st.n u→Q u s):wpAny (model c.prog c.w) A (loadName env x) Q E s:=by
 refine bT' h fun hk h=>?_;have hk:env.scope.kind = .function:=by rw [e.sc]; exact Q2 hk
 have hko:=Z0S e.sc x;refine ZfM h (fun hl h=>?_) (fun hl h=>?_) (fun hl h=>?_) fun hl h=>?_
 ·refine ZfS h fun m hm h=>?_;obtain ⟨f,hn,hf⟩:=(ZL R hm).2;have:=hf x;rw [h] at this;obtain ⟨u,h1,h2⟩:=this;rw [← e.loc] at hn;exact wpAny_loadName_local hk (hko.trans hl) hn h1 (hq u h2)
 ·refine bE h fun j hj hw=>?_;obtain ⟨hjn,hjc⟩:=e.cells x j hj;obtain ⟨o,u,h1,h2,h3⟩:=(ZL R (ZfF hw)).2;exact wpAny_loadName_cell hk (hko.trans hl) hjc ⟨o,h1,h2⟩ (hq u h3)
 ·refine bF h fun hcd h=>bE h fun j hj hw=>?_;obtain ⟨hjn,hjc⟩:=e.cells x j hj;obtain ⟨o,u,h1,h2,h3⟩:=(ZL R (ZfF hw)).2;exact wpAny_loadName_free hk (hko.trans hl) hjc ⟨o,h1,h2⟩ (hq u h3) (by rw [Q1]; exact hcd)
 ·refine bF h fun u0 h=>?_;obtain ⟨mg,mb,h1,h2,h3,h4,h5,h6,h7⟩:=X.glob;obtain ⟨u,hu,hm⟩:=h7 x v h;have n1:=Z7c R h1 h3 h5;have n2:=Z7c R h2 h4 h6;rw [← e.globals] at n1;rw [← e.builtins] at n2;rw [loadName_read hk (hko.trans hl)];rcases hm with hm | ⟨hm,hb⟩
  ·exact Calls.loadGlobal_global n1 hm (hq u (hu _ _))
  ·exact Calls.loadGlobal_builtin n1 hm n2 hb (hq u (hu _ _))
end
section
variable {G:Prop}{α β:Type}{x:α}{z:Out×St}
theorem ZB (h:onV r k=some z)(g:∀ a st,r=some (.v a,st)→k a st=some z→G):G:=by
 cases r with
 | none=>exact no h
 | some r =>
  obtain ⟨o,st⟩:=r
  cases o with
  | v a=>exact g a st rfl h
  | _=>exact no h
theorem Xh (h:JF r k=some z)(g:∀ a st,r=some (.vs a,st)→k a st=some z→G):G:=by
 cases r with
 | none=>exact no h
 | some r =>
  obtain ⟨o,st⟩:=r
  cases o with
  | vs a=>exact g a st rfl h
  | _=>exact no h
theorem Z7b (h:onB r k=some z)(g:∀ a st,r=some (.b a,st)→k a st=some z→G):G:=by
 cases r with
 | none=>exact no h
 | some r =>
  obtain ⟨o,st⟩:=r
  cases o with
  | b a=>exact g a st rfl h
  | _=>exact no h
theorem Z70 (h:onU r k=some z)(g:∀ st,r=some (.u,st)→k st=some z→G):G:=by
 cases r with
 | none=>exact no h
 | some r =>
  obtain ⟨o,st⟩:=r
  cases o with
  | u=>exact g st rfl h
  | _=>exact no h
theorem Z9V (h:onF r k q=some z)(g:∀ st,r=some (.nx,st)→k st=some z→G)(g':∀ x st,r=some (.ret x,st)→q x st=some z→G):G:=by
 cases r with
 | none=>exact no h
 | some r =>
  obtain ⟨o,st⟩:=r
  cases o with
  | nx=>exact g st rfl h
  | ret x=>exact g' x st rfl h
  | _=>exact no h
theorem Z8g (h:ZkI r k q=some z)(g:∀ x st,r=some (some x,st)→k x st=some z→G)(g':∀ st,r=some (none,st)→q st=some z→G):G:=by
 cases r with
 | none=>exact no h
 | some r =>
  obtain ⟨o,st⟩:=r
  cases o with
  | none=>exact g' st rfl h
  | some x=>exact g x st rfl h
theorem Zdo (h:onL r k=some z)(g:∀ st,r=some st→k st=some z→G):G:=by
 cases r with
 | none=>exact no h
 | some st=>exact g st rfl h
theorem Zen {F:MV→Option α}(h:(match o with | some v=>F v | none=>none)=some x)(g:∀ v,o=some v→F v=some x→G):G:=by
 cases o with
 | none=>exact no h
 | some v=>exact g v rfl h
theorem Zer {F:List MV→Option α}(h:(match o with | some v=>F v | none=>none)=some x)(g:∀ v,o=some v→F v=some x→G):G:=by
 cases o with
 | none=>exact no h
 | some v=>exact g v rfl h
theorem ZcA {F:Bool→Option α}(h:(match o with | some v=>F v | none=>none)=some x)(g:∀ v,o=some v→F v=some x→G):G:=by
 cases o with
 | none=>exact no h
 | some v=>exact g v rfl h
theorem ZfE {F:Int→Option α}(h:(match o with | some v=>F v | none=>none)=some x)(g:∀ v,o=some v→F v=some x→G):G:=by
 cases o with
 | none=>exact no h
 | some v=>exact g v rfl h
theorem Zg6 {F:List Str→Option α}(h:(match o with | some v=>F v | none=>none)=some x)(g:∀ v,o=some v→F v=some x→G):G:=by
 cases o with
 | none=>exact no h
 | some v=>exact g v rfl h
theorem ZfH {F:List (Str×MV)→Option α}(h:(match o with | some v=>F v | none=>none)=some x)(g:∀ v,o=some v→F v=some x→G):G:=by
 cases o with
 | none=>exact no h
 | some v=>exact g v rfl h
theorem boL {F:List Str→Option α}(h:(match b,o with | true,some l=>F l | _,_=>none)=some x)(g:∀ l,b=true→o=some l→F l=some x→G):G:=by
 cases b with
 | false=>exact no h
 | true=>cases o with
  | none=>exact no h
  | some l=>exact g l rfl rfl h
theorem boD {F:List (Str×MV)→Option α}(h:(match b,o with | true,some l=>F l | _,_=>none)=some x)(g:∀ l,b=true→o=some l→F l=some x→G):G:=by
 cases b with
 | false=>exact no h
 | true=>cases o with
  | none=>exact no h
  | some l=>exact g l rfl rfl h
theorem Z8i {o:Option MObj}{F:List MV→Option α}(h:(match o with | some (.tup xs)=>F xs | _=>none)=some x)(g:∀ xs,o=some (.tup xs)→F xs=some x→G):G:=by
 cases o with
 | none=>exact no h
 | some o=>cases o with
  | tup xs=>exact g xs rfl h
  | _=>exact no h
theorem ZfN {o o':Option MObj}{F:List MV→List MV→Option α}(h:(match o,o' with | some (.list xs),some (.list ys)=>F xs ys | _,_=>none)=some x)(g:∀ xs ys,o=some (.list xs)→o'=some (.list ys)→F xs ys=some x→G):G:=by
 cases o with
 | none=>exact no h
 | some o=>cases o with
  | list xs=>cases o' with
   | none=>exact no h
   | some o=>cases o with
    | list ys=>exact g xs ys rfl rfl h
    | _=>exact no h
  | _=>exact no h
theorem ZfG {o:Option MObj}{F:List (Str×MV)→Option α}{F':List (Str×MV)→Nat→Option α}(h:(match o with | some (.dict es)=>F es | some (.fdict es j)=>F' es j | _=>none)=some x)(g:∀ es,o=some (.dict es)→F es=some x→G)(g':∀ es j,o=some (.fdict es j)→F' es j=some x→G):G:=by
 cases o with
 | none=>exact no h
 | some o=>cases o with
  | dict es=>exact g es rfl h
  | fdict es j=>exact g' es j rfl h
  | _=>exact no h
theorem Zfq {o:Option MObj}{E:List MV→Option α}{F:List (Str×MV)→Option α}{F':List (Str×MV)→Nat→Option α}(h:(match o with | some (.tup xs)=>E xs | some (.dict es)=>F es | some (.fdict es j)=>F' es j | _=>none)=some x)(g0:∀ xs,o=some (.tup xs)→E xs=some x→G)(g:∀ es,o=some (.dict es)→F es=some x→G)(g':∀ es j,o=some (.fdict es j)→F' es j=some x→G):G:=by
 cases o with
 | none=>exact no h
 | some o=>cases o with
  | tup xs=>exact g0 xs rfl h
  | dict es=>exact g es rfl h
  | fdict es j=>exact g' es j rfl h
  | _=>exact no h
theorem QD {o:Option MObj}{F:List MV→Option α}(h:(match o with | some (.list xs)=>F xs | _=>none)=some x)(g:∀ xs,o=some (.list xs)→F xs=some x→G):G:=by
 cases o with
 | none=>exact no h
 | some o=>cases o with
  | list xs=>exact g xs rfl h
  | _=>exact no h
@[elab_as_elim] theorem vE {P:MV→St→Prop} (h:some (Out.v a,s)=some (Out.v y,s')) (p:P a s):P y s':=by cases h;exact p
@[elab_as_elim] theorem oEq {P:Out→St→Prop} (h:some (o,s)=some (o',s')) (p:P o s):P o' s':=by cases h;exact p
@[elab_as_elim] theorem sE {P:α→Prop} (h:some x=some y) (p:P x):P y:=by cases h;exact p
@[elab_as_elim] theorem alE {st:St} {P:MV→St→Prop} (h:(st.alloc o fun k st=>some (.v (.ref k),st))=some (.v y,s')) (p:P (.ref st.n) (st.push o)):P y s':=vE h p
end
section
variable {ρ:Rho}{n:Nat}{v:Value}{P:Value→Prop}
@[elab_as_elim] theorem isInt (h:(MV.int i).Is ρ n v) (p:∀ t,P (.int i t)):P v:=xE h fun t e=>e▸p t
@[elab_as_elim] theorem isStr (h:(MV.str x).Is ρ n v) (p:∀ t,P (.str x t)):P v:=xE h fun t e=>e▸p t
@[elab_as_elim] theorem isRef (h:(MV.ref l).Is ρ n v) (p:l<n→P (.ref (ρ.a l))):P v:=h.2▸p h.1
@[elab_as_elim] theorem isBool (h:(MV.bool b).Is ρ n v) (p:P (.bool b)):P v:=(show v = .bool b from h)▸p
@[elab_as_elim] theorem isNon (h:MV.none.Is ρ n v) (p:P .none):P v:=(show v = .none from h)▸p
@[elab_as_elim] theorem isOld (h:(MV.old a).Is ρ n v) (p:P (.ref a)):P v:=(show v = .ref a from h)▸p
end
section
variable {c:Cfg}{T:Tab}{ρ:Rho}{st st':St}{s:Shared}{A:Around}{E:Value→Shared→Prop}
theorem Zcc (h:(st.alloc o fun k st=>some (.v (.ref k),st))=some (x,st')):True∧x = .v (.ref st.n)∧st'=st.push o:=by
 obtain ⟨h1,h2⟩:=St.alloc_eq h
 cases h2
 exact ⟨h1,rfl,rfl⟩
theorem Z2B (R:Rel c ρ st s)(C:c.Ok)(hb:True)(ep:Nat)(h:Are ρ st.n xs vs.toList)(t:Nat)(k:Obj)(hk:k={ cls:=.type "list",data:=.seq vs ep }) :
  Z7 c ρ st.n (st.push (.list xs)) { s with heap:=s.heap.push k,toks:=t } fun ρ'=>(MV.ref st.n).Is ρ' (st.n+1) (.ref s.heap.objs.size):=by
 subst hk;have g:=ρ.ext_ag st.n s.heap.objs.size 0;refine ⟨ρ.ext st.n s.heap.objs.size 0,g,W03 _,R.push C t hb ⟨vs,ep,?_,h.mono g (W03 _)⟩,W02 _,by rw [Rho.ext_a]⟩;rw [Rho.ext_a]; exact get?_push_size _ rfl
theorem Zbi (R:Rel c ρ st s)(C:c.Ok)(hb:True)(ep:Nat)(h:Are ρ st.n xs vs.toList)(t:Nat)(k:Obj)(hk:k={ cls:=.type "tuple",data:=.seq vs ep }) :
  Z7 c ρ st.n (st.push (.tup xs)) { s with heap:=s.heap.push k,toks:=t } fun ρ'=>(MV.ref st.n).Is ρ' (st.n+1) (.ref s.heap.objs.size):=by
 subst hk;have g:=ρ.ext_ag st.n s.heap.objs.size 0;refine ⟨ρ.ext st.n s.heap.objs.size 0,g,W03 _,R.push C t hb ⟨vs,ep,?_,h.mono g (W03 _)⟩,W02 _,by rw [Rho.ext_a]⟩;rw [Rho.ext_a]; exact get?_push_size _ rfl
theorem Z1k (h:Yv x=true):x.length≤1000000:=W06 h
theorem Z9B (h:Jn a b=true):IntMulOk a b:=fun hx=>by
 (first | delta Jn at h | unfold Jn at h)
 rw [hx] at h
 cases h
theorem QE {us:Array Value}(h:j<us.size):us.toList[j]?=some us[j]:=by rw [Array.getElem?_toList,Array.getElem?_eq_getElem h]
theorem Z1r {vs:Array Value}(h:Are ρ n xs vs.toList):vs.size=xs.length:=(length_toList).symm.trans h.length
theorem Za3 (C:c.Ok)(h:XT c.ro op a b st=some (.v x,st'))(R:Rel c ρ st s)(ha:a.Is ρ st.n va)(hb:b.Is ρ st.n vb) :
  wpAny (model c.prog c.w) A (binaryOp op va vb) (PV c ρ st.n st' x) E s:=by
 induction op using PySem.Operator.casesOn with
 | Add=>cases a with
  | int i=>cases b with
   | int j=>exact vE h (isInt ha fun u0=>isInt hb fun u0=>P.add_int (Z7.here (R.toks _) ⟨_,rfl⟩))
   | _=>exact no h
  | str y=>cases b with
   | str z=>exact bTT h fun h1 h2 h=>vE h (isStr ha fun u0=>isStr hb fun u0=>SB.add (fun t' k=>Z7.here (R.toks _) ⟨_,rfl⟩) (W01 (Nat.add_le_add (Z1k h1) (Z1k h2)) (by decide)))
   | _=>exact no h
  | ref i=>cases b with
   | ref j =>
    refine ZfN h fun xs ys hi hj h=>bT h fun hl h=>alE h ?_;obtain ⟨h1,vs,ep,e1,r1⟩:=ZL R hi;obtain ⟨h2,us,ep2,e2,r2⟩:=ZL R hj;refine isRef ha fun u0=>isRef hb fun u0=>concat_meets ⟨_,e1,rfl⟩ ⟨_,e2,rfl⟩ noFill_list_add seq_list_add PySem.F.slot_list_add PySem.F.entry_list_add (PySem.F.args_list_add_2 _ _) (list_addW _ _ vs us ep ep2 _ _ _ _ ?_) ⟨e1,e2,?_⟩
    ·rw [Z1r r1,Z1r r2];exact W01 (W06 hl) (by decide)
    ·exact Z2B R C trivial 0 (by rw [Array.toList_append]; exact r1.append r2) _ _ rfl
   | _=>exact no h
  | _=>exact no h
 | Sub=>cases a with
  | int i=>cases b with
   | int j=>exact vE h (isInt ha fun u0=>isInt hb fun u0=>P.sub_int (Z7.here (R.toks _) ⟨_,rfl⟩))
   | _=>exact no h
  | _=>exact no h
 | Mult=>cases a with
  | int i=>cases b with
   | int j=>exact bT h fun hm h=>vE h (isInt ha fun u0=>isInt hb fun u0=>P.mul_int (Z7.here (R.toks _) ⟨_,rfl⟩) (Z9B hm))
   | _=>exact no h
  | _=>exact no h
 | FloorDiv=>cases a with
  | int i=>cases b with
   | int j=>exact bFF h fun h0 h1 h=>vE h (isInt ha fun u0=>isInt hb fun u0=>AutoIntOps.floordiv_1 (ne_true_of_eq_false h0) (ne_true_of_eq_false h1) (Z7.here (R.toks _) ⟨_,rfl⟩))
   | _=>exact no h
  | _=>exact no h
 | Mod=>cases a with
  | int i=>cases b with
   | int j=>exact bF' h fun h0 h=>vE h (isInt ha fun u0=>isInt hb fun u0=>PyProof.Rows.mod_int' (of_decide_eq_false h0) (Z7.here (R.toks _) ⟨_,rfl⟩))
   | _=>exact no h
  | _=>exact no h
 | Pow=>cases a with
  | int i=>cases b with
   | int j =>
    have h:(match j==0 with | true=>some (Out.v (.int 1),st) | false=>(match Zk7 i j with | true=>some (.v (.int (i ^ j.toNat)),st) | false=>none))=some (.v x,st'):=h
    cases h0:j==0 with
    | true =>
     rw [h0] at h;exact vE h (isInt ha fun u0=>isInt hb fun u0=>AutoIntOps.pow_0 (eq_of_beq h0▸Int.le_refl 0) h0 (Z7.here (R.toks _) ⟨_,rfl⟩))
    | false =>
     rw [h0] at h;refine bT h fun hp h=>vE h (isInt ha fun u0=>isInt hb fun u0=>?_)
     (first | delta Zk7 at hp | unfold Zk7 at hp)
     simp only [and_eq_true,not_eq_true',decide_eq_true_eq] at hp;exact AutoIntOps.pow_4 hp.1.1.1.1 (ne_true_of_eq_false hp.1.1.1.2) (ne_true_of_eq_false hp.1.1.2) (ne_true_of_eq_false hp.1.2) (ne_true_of_eq_false hp.2) (Z7.here (R.toks _) ⟨_,rfl⟩)
   | _=>exact no h
  | _=>exact no h
 | _=>exact no h
theorem Zb5 (x y:Str):seq x y=(x==y):=by
 unfold seq;rw [Q1];obtain ⟨⟨a⟩⟩:=x;obtain ⟨⟨b⟩⟩:=y;by_cases h:a=b<;>simp [h]
theorem Z4b {q:Value→Value→Bool→Prop}(hp:∀ x y b u v,p x y=some b→x.Is ρ n u→y.Is ρ n v→q u v b) :
  ∀ {xs ys:List MV} {us vs:List Value} {b:Bool},JG p xs ys=some b→Are ρ n xs us→Are ρ n ys vs →
   ∃ e:Nat→Bool,(∀ i u v,us[i]?=some u→vs[i]?=some v→q u v (e i))∧b=(List.range us.length).all e∧us.length=vs.length
 | [],[],[],[],b,h,_,_=>⟨fun u0=>true,fun i u v e=>by simp at e,by cases h;rfl,rfl⟩
 | x::xs,y::ys,u::us,v::vs,b,h,hP,hQ=>by
  refine bE h fun a h0 h=>bE h fun b' h1 h=>?_
  cases h
  obtain ⟨e,e1,e2,e3⟩:=Z4b hp h1 hP.2 hQ.2;refine ⟨fun i=>match i with | 0=>a | i+1=>e i,fun i a b ea eb=>?_,?_,congrArg Nat.succ e3⟩
  ·induction i using casesAuxOn with
   | zero=>cases ea;cases eb;exact hp _ _ _ _ _ h0 hP.1 hQ.1
   | succ i=>exact e1 i a b ea eb
  ·rw [e2,length_cons,range_succ_eq_map];simp [Function.comp_def,List.all_map]
 | [],[],[],_::_,_,_,_,h=>h.elim
 | [],[],_::_,_,_,_,h,_=>h.elim
 | [],_::_,_,_,_,h,_,_=>no h
 | _::_,[],_,_,_,h,_,_=>no h
 | _::_,_::_,[],_,_,_,h,_=>h.elim
 | _::_,_::_,_::_,[],_,_,_,h=>h.elim
theorem Z5K (h:JX p a b=some r)(hu:A.units<cLine)
  (hp:∀ x y b u v,p x y=some b→x.Is ρ st.n u→y.Is ρ st.n v→SeqAt.EqAt A.in1 s u v b)
  (ha:∀ o,a=some o→match o with | .tup xs=>∃ vs,s.heap.IsTuple x vs∧Are ρ st.n xs vs.toList | .list xs=>∃ vs,s.heap.IsList x vs∧Are ρ st.n xs vs.toList | _=>True)
  (hb:∀ o,b=some o→match o with | .tup xs=>∃ vs,s.heap.IsTuple y vs∧Are ρ st.n xs vs.toList | .list xs=>∃ vs,s.heap.IsList y vs∧Are ρ st.n xs vs.toList | _=>True) :
  SeqAt.RcAt A s (.ref x) (.ref y) r∧SeqAt.RcNeAt A s (.ref x) (.ref y) (!r):=by
 cases a with
 | none=>exact no h
 | some a=>cases a with
  | tup xs=>cases b with
   | none=>exact no h
   | some b=>cases b with
    | tup ys =>
     refine bT h fun u0 h=>?_;obtain ⟨us,hus,hau⟩:=ha _ rfl;obtain ⟨vs,hvs,hav⟩:=hb _ rfl;obtain ⟨e,e1,e2,e3⟩:=Z4b hp h hau hav;rw [length_toList] at e2 e3;have z:=SeqAt.RcAt.tuples (e:=e) hus hvs hu fun j h1 h2=>e1 j _ _ (QE h1) (QE h2);have z':=SeqAt.RcNeAt.tuples (e:=e) hus hvs hu fun j h1 h2=>e1 j _ _ (QE h1) (QE h2);rw [e3,length_toList,Nat.min_self,beq_self_eq_true,Bool.and_true] at z z'
     rw [e2,e3,length_toList];exact ⟨z,z'⟩
    | _=>exact no h
  | list xs=>cases b with
   | none=>exact no h
   | some b=>cases b with
    | list ys =>
     obtain ⟨us,hus,hau⟩:=ha _ rfl;obtain ⟨vs,hvs,hav⟩:=hb _ rfl;have h:(match beq xs.length ys.length with | true=>JG p xs ys | false=>some false)=some r:=h
     cases hl:beq xs.length ys.length with
     | true =>
      rw [hl] at h;obtain ⟨e,e1,e2,e3⟩:=Z4b hp h hau hav;rw [length_toList] at e2 e3;rw [length_toList] at e3;rw [e2];exact ⟨SeqAt.RcAt.lists hus hvs e3 hu fun j h1 h2=>e1 j _ _ (QE h1) (QE h2),SeqAt.RcNeAt.lists hus hvs e3 hu fun j h1 h2=>e1 j _ _ (QE h1) (QE h2)⟩
     | false =>
      rw [hl] at h
      cases h
      have hz:(us.size != vs.size)=true:=bne_iff_ne.mpr (by rw [Z1r hau,Z1r hav]; exact Nat.ne_of_beq_eq_false hl);exact ⟨SeqAt.RcAt.lists_lengths hus hvs hz hu,SeqAt.RcNeAt.lists_lengths hus hvs hz hu⟩
    | _=>exact no h
  | _=>exact no h
theorem Z4f (R:Rel c ρ st s):∀ o,st.get i=some o→match o with | .tup xs=>∃ vs,s.heap.IsTuple (ρ.a i) vs∧Are ρ st.n xs vs.toList | .list xs=>∃ vs,s.heap.IsList (ρ.a i) vs∧Are ρ st.n xs vs.toList | _=>True:=by
 intro o h;obtain ⟨_,z,_⟩:=R.at_ i o h
 cases o with
 | tup xs=>obtain ⟨vs,ep,e,r⟩:=z;exact ⟨vs,⟨_,e,rfl,_,rfl⟩,r⟩
 | list xs=>obtain ⟨vs,ep,e,r⟩:=z;exact ⟨vs,⟨_,e,rfl,_,rfl⟩,r⟩
 | _=>trivial
theorem Z6k (R:Rel c ρ st s):∀ o,rd c.ro st i=some o→match o with | .tup xs=>∃ vs,s.heap.IsTuple (ρ.a i) vs∧Are ρ st.n xs vs.toList | .list xs=>∃ vs,s.heap.IsList (ρ.a i) vs∧Are ρ st.n xs vs.toList | _=>True:=by
 intro o h;obtain ⟨_,z⟩:=ZL R h
 cases o with
 | tup xs=>obtain ⟨vs,ep,e,r⟩:=z;exact ⟨vs,⟨_,e,rfl,_,rfl⟩,r⟩
 | list xs=>obtain ⟨vs,ep,e,r⟩:=z;exact ⟨vs,⟨_,e,rfl,_,rfl⟩,r⟩
 | _=>trivial
theorem Z3o (X:YT c T)(C:c.Ok)(R:Rel c ρ st s)(h:T.base a=some xs):c.U a∧∃ vs ep,s.heap.get? a=some { cls:=.type "tuple",data:=.seq vs ep }∧Are ρ st.n xs vs.toList:=by
 (refine xEEEAA (X.base a xs h) ?_;intro o vs ep h1 o0 h3;subst o0)
 exact ⟨(C.kin a _ h1).2.1,vs,ep,(R.kin C) a _ h1,h3 ρ st.n⟩
theorem Z6T (X:YT c T)(C:c.Ok)(R:Rel c ρ st s):∀ o,Zk5 T a=some o→match o with | .tup xs=>∃ vs,s.heap.IsTuple a vs∧Are ρ st.n xs vs.toList | .list xs=>∃ vs,s.heap.IsList a vs∧Are ρ st.n xs vs.toList | _=>True:=by
 intro o h;refine Zer h fun xs hb h=>?_
 cases h
 obtain ⟨_,vs,ep,h1,h2⟩:=Z3o X C R hb;exact ⟨vs,⟨_,h1,rfl,_,rfl⟩,h2⟩
theorem Z22 (a b:Int):decide (a=b)=(a==b):=by by_cases h:a=b<;>simp [h]
theorem Z55 {G:Prop}(h:JX p a b=some r)(g:∀ x y,a=some x→b=some y→G):G:=by
 cases a with
 | none=>exact no h
 | some x=>cases b with
  | none=>induction x using MObj.casesOn<;>exact no h
  | some y=>exact g x y rfl rfl
theorem Zdq (X:YT c T)(C:c.Ok)(R:Rel c ρ st s):∀ (f:Nat)(A:Around)(x y:MV)(b:Bool)(u v:Value),A.units+f<cLine→eqv T st f x y=some b→x.Is ρ st.n u→y.Is ρ st.n v→SeqAt.EqAt A s u v b:=by
 intro f
 induction f with
 | zero=>intro A x y b u v _ h;cases h
 | succ f ih =>
  intro A x y b u v hu h hx hy
  induction x using MV.casesOn with
  | none=>induction y using MV.casesOn with
   | none=>cases h;cases hx;cases hy;exact SeqAt.EqAt.same _
   | _=>exact no h
  | bool a=>cases y with
   | bool d=>cases h;cases hx;cases hy;exact SeqAt.EqAt.bool_bool _ _
   | _=>exact no h
  | int a=>cases y with
   | int d=>cases h;exact isInt hx fun u0=>isInt hy fun u0=>(Z22 a d)▸SeqAt.EqAt.int_int _ _ _ _
   | _=>exact no h
  | str a=>cases y with
   | str d=>cases h;exact isStr hx fun u0=>isStr hy fun u0=>(Zb5 a d)▸SeqAt.EqAt.str_str _ _ _ _
   | _=>exact no h
  | ref i=>cases y with
   | ref j =>
    refine isRef hx fun hi=>isRef hy fun hj=>?_;have h:(match beq i j with | true=>some true | false=>JX (eqv T st f) (st.get i) (st.get j))=some b:=h
    cases e:beq i j with
    | true =>
     rw [e] at h
     cases h
     exact W09 e▸SeqAt.EqAt.same _
    | false =>
     rw [e] at h;have h:JX (eqv T st f) (st.get i) (st.get j)=some b:=h;refine SeqAt.EqAt.of_refs (fun q=>?_) (Z5K h (Nat.lt_of_le_of_lt (W07 _ _) hu) (fun x y b u v e1 e2 e3=>ih A.in1 x y b u v (by rw [← add_assoc,Nat.add_right_comm] at hu;exact hu) e1 e2 e3) (Z4f R) (Z4f R)).1;refine Z55 h fun oi oj hgi hgj=>Nat.ne_of_beq_eq_false e (R.inj i j oi oj hgi hgj q)
   | _=>exact no h
  | old a=>cases y with
   | ref j =>
    refine isOld hx (isRef hy fun hj=>?_);have h:JX (eqv T st f) (Zk5 T a) (st.get j)=some b:=h;refine SeqAt.EqAt.of_refs (fun q=>?_) (Z5K h (Nat.lt_of_le_of_lt (W07 _ _) hu) (fun x y b u v e1 e2 e3=>ih A.in1 x y b u v (by rw [← add_assoc,Nat.add_right_comm] at hu;exact hu) e1 e2 e3) (Z6T X C R) (Z4f R)).1;exact Z55 h fun oi oj hb hgj=>Zer hb fun xs hb u0=>(R.at_ j oj hgj).2.2 (q▸(Z3o X C R hb).1)
   | _=>exact no h
  | _=>exact no h
theorem Z41 (h:x.Is ρ st.n v):(v == .none)=isNone x:=by
 induction x using MV.casesOn with
 | none=>cases h;rfl
 | bool b=>cases h;rfl
 | int i=>(refine xE h ?_;(try clear h);intro t o0;subst o0);rfl
 | str x=>(refine xE h ?_;(try clear h);intro t o1;subst o1);rfl
 | ref l=>(refine xA h ?_;(try clear h);intro _ o2;subst o2);rfl
 | old a=>cases h;rfl
 | bi b=>cases h;induction b using Bi.casesOn<;>rfl
theorem Z4I:∀ {xs:List MV}{us:List Value}{b:Bool},ZiK k xs=some b→Are ρ st.n xs us→(∀ y,y∈us→∃ i t,y = .int i t)∧b=us.any fun v=>match v with | .int i _=>i==k | _=>false
 | [],[],b,h,_=>by cases h;exact ⟨fun u0 h=>(nomatch h),rfl⟩
 | x::xs,u::us,b,h,hA=>by
  cases x with
  | int i =>
   refine ZcA h fun b' h1 h=>?_
   cases h
   have z:=Z4I h1 hA.2;exact isInt hA.1 fun u0=>⟨fun y hy=>(W0i hy).elim (fun e=>⟨_,_,e⟩) (z.1 y),by rw [any_cons,← z.2,Z22]⟩
  | _=>exact no h
 | [],_::_,_,_,h=>h.elim
 | _::_,[],_,_,h=>h.elim
theorem Z4H:∀ {xs:List MV}{us:List Value}{b:Bool},YC k xs=some b→Are ρ st.n xs us→(∀ y,y∈us→∃ i t,y = .str i t)∧b=us.any fun v=>match v with | .str i _=>i==k | _=>false
 | [],[],b,h,_=>by cases h;exact ⟨fun u0 h=>(nomatch h),rfl⟩
 | x::xs,u::us,b,h,hA=>by
  cases x with
  | str i =>
   refine ZcA h fun b' h1 h=>?_
   cases h
   have z:=Z4H h1 hA.2;exact isStr hA.1 fun u0=>⟨fun y hy=>(W0i hy).elim (fun e=>⟨_,_,e⟩) (z.1 y),by rw [any_cons,← z.2,Zb5]⟩
  | _=>exact no h
 | [],_::_,_,_,h=>h.elim
 | _::_,[],_,_,h=>h.elim
theorem Z0V {es:List (Str×MV)}{kvs:List (Str×Value)}(k:Str):Zu ρ st.n es kvs→match Z2 k es with
  | some x=>∃ v,valueAt kvs k=some v∧x.Is ρ st.n v
  | none=>valueAt kvs k=none:=by
 intro h
 induction es generalizing kvs with
 | nil=>cases kvs with
  | nil=>rfl
  | cons _ _=>exact h.elim
 | cons e es ih =>
  obtain ⟨j,x⟩:=e
  cases kvs with
  | nil=>exact h.elim
  | cons p kvs =>
   obtain ⟨j',v⟩:=p
   (refine xAA h ?_;(try clear h);intro o0 h1 h2;subst o0)
   have z:=ih h2;unfold Z2;by_cases hk:j=k
   ·simp only [hk,decide_true];exact ⟨v,by simp [valueAt],h1⟩
   ·simp only [hk,decide_false];have e1:valueAt ((j,v)::kvs) k=valueAt kvs k:=by simp [valueAt,hk]
    rw [e1];exact z
theorem Z5s (k:Str)(h:Zu ρ st.n es kvs):(valueAt kvs k).isSome=(Z2 k es).isSome:=by
 have z:=Z0V k h
 cases e:Z2 k es with
 | none=>rw [e] at z;rw [z]; rfl
 | some x=>rw [e] at z;obtain ⟨v,h1,_⟩:=z;rw [h1]; rfl
theorem Xi (h:rd ro st j=some (.dict es)):Y2 ro st (.ref j)=some es:=by show (match rd ro st j with | some (.dict es)=>some es | some (.fdict es _)=>some es | _=>none)=_;rw [h]
theorem Z0F (h:rd ro st j=some (.fdict es k)):Y2 ro st (.ref j)=some es:=by show (match rd ro st j with | some (.dict es)=>some es | some (.fdict es _)=>some es | _=>none)=_;rw [h]
theorem QF (C:c.Ok)(R:Rel c ρ st s)(h:Y2 c.ro st x=some es)(hx:x.Is ρ st.n v) :
  ∃ i kvs ep,x = .ref i∧v = .ref (ρ.a i)∧Dct c s.heap (ρ.a i) kvs ep∧Zu ρ st.n es kvs∧(ρ.a i==sysModules)=false:=by
 cases x with
 | ref i =>
  have hs:∀ o,rd c.ro st i=some o→(ρ.a i==sysModules)=false:=by
   intro o ho;have:ρ.a i≠sysModules:=by
    (first | delta rd at ho | unfold rd at ho)
    cases hg:st.get i with
    | some o'=>intro q;exact (R.at_ i o' hg).2.2 (q▸C.sys)
    | none=>rw [hg] at ho;exact (R.ro i o ho).2.2.2
   simpa using this
  refine ZfG h (fun es' hr h=>injS h fun e=>?_) fun es' j hr h=>injS h fun e=>?_
  ·obtain ⟨_,kvs,ep,h1,h2⟩:=ZL R hr;exact ⟨i,kvs,ep,rfl,hx.2,h1,e▸h2,hs _ hr⟩
  ·obtain ⟨_,_,kvs,h1,h2⟩:=ZL R hr;exact ⟨i,kvs,_,rfl,hx.2,h1,e▸h2,hs _ hr⟩
 | _=>exact no h
theorem Z8H (hl:s.heap.IsTuple a vs)(hA:Are ρ st.n xs vs.toList)(h:ZiK k xs=some b) :
  ∃ e:Value→Bool,(∀ y,y∈vs→SeqAt.EqAt A.in1 s y (.int k t) (e y))∧vs.any e=b:=by
 obtain ⟨z1,z2⟩:=Z4I h hA;refine ⟨fun v=>match v with | .int i _=>i==k | _=>false,fun y hy=>?_,Array.any_toList.symm.trans z2.symm⟩
 (refine xEE (z1 y (by simpa using hy)) ?_;intro i u o0;subst o0)
 exact SeqAt.EqAt.int_int _ _ _ _
theorem Z7p (hl:s.heap.IsTuple a vs)(hA:Are ρ st.n xs vs.toList)(h:YC k xs=some b) :
  ∃ e:Value→Bool,(∀ y,y∈vs→SeqAt.EqAt A.in1 s y (.str k t) (e y))∧vs.any e=b:=by
 obtain ⟨z1,z2⟩:=Z4H h hA;refine ⟨fun v=>match v with | .str i _=>i==k | _=>false,fun y hy=>?_,Array.any_toList.symm.trans z2.symm⟩
 (refine xEE (z1 y (by simpa using hy)) ?_;intro i u o0;subst o0)
 exact SeqAt.EqAt.str_str _ _ _ _
theorem Z5q (h:Qv x=some b):∃ r,x=some r∧b=!r:=by
 cases x with
 | none=>cases h
 | some r=>cases h;exact ⟨r,rfl,rfl⟩
theorem ZaD (X:YT c T)(C:c.Ok)(R:Rel c ρ st s)(hr:Zg c A lev)(h:rcv T c.ro st a b=some r)(ha:a.Is ρ st.n va)(hb:b.Is ρ st.n vb) :
  (Q (.bool r) s→wpAny (model c.prog c.w) A (compareOp .Eq va vb) Q E s)∧(Q (.bool (!r)) s→wpAny (model c.prog c.w) A (compareOp .NotEq va vb) Q E s):=by
 cases a with
 | int i=>cases b with
  | int j=>exact sE h (isInt ha fun u0=>isInt hb fun u0=>Z22 i j▸⟨P.eq_int,P.ne_int⟩)
  | _=>exact no h
 | str i=>cases b with
  | str j=>exact sE h (isStr ha fun u0=>isStr hb fun u0=>⟨P.eq_str,P.ne_str⟩)
  | _=>exact no h
 | bool i=>cases b with
  | bool j=>exact sE h (isBool ha (isBool hb ⟨EqBoolInt.of_rc (SeqAt.RcAt.bool_bool _ _),EqBoolInt.of_rcne (SeqAt.RcNeAt.bool_bool _ _)⟩))
  | _=>exact no h
 | ref i=>cases b with
  | ref j =>
   have hu:=hr.line;refine isRef ha fun u0=>isRef hb fun u0=>?_;have z:=Z5K (x:=ρ.a i) (y:=ρ.a j) (A:=A) h (by omega) (fun x y b u v e1 e2 e3=>Zdq X C R 8 A.in1 x y b u v (by show A.units+1+8<cLine;omega) e1 e2 e3) (Z6k R) (Z6k R);exact ⟨EqBoolInt.of_rc z.1,EqBoolInt.of_rcne z.2⟩
  | _=>exact no h
 | _=>exact no h
theorem QG (x:Str)(t:Tok):(PySem.strKind c.prog c.w).is x (.str x t)=true:=by simp [PySem.strKind,Value.isStrOf]
theorem Z2H (X:YT c T)(C:c.Ok)(R:Rel c ρ st s)(hr:Zg c A lev)(h:ZY T c.ro st op a b=some r)(ha:a.Is ρ st.n va)(hb:b.Is ρ st.n vb)
  (hq:∀ t,Q (.bool r) { s with toks:=t }):wpAny (model c.prog c.w) A (compareOp op va vb) Q E s:=by
 have q0:Q (.bool r) s:=hq s.toks
 induction op using PySem.CmpOp.casesOn with
 | Eq=>exact (ZaD X C R hr h ha hb).1 q0
 | NotEq =>
  (refine xEA (Z5q h) ?_;intro r' h1 o0;subst o0)
  exact (ZaD X C R hr h1 ha hb).2 q0
 | Is=>induction b using MV.casesOn with
  | none=>cases h;exact isNon hb (is_none (by rw [Z41 ha]; exact q0))
  | _=>exact no h
 | IsNot=>induction b using MV.casesOn with
  | none=>cases h;exact isNon hb (isNot_none (by rw [Z41 ha]; exact q0))
  | _=>exact no h
 | Lt=>cases a with
  | int i=>cases b with
   | int j=>cases h;exact isInt ha fun u0=>isInt hb fun u0=>P.lt_int q0
   | _=>exact no h
  | _=>exact no h
 | Gt=>cases a with
  | int i=>cases b with
   | int j=>cases h;exact isInt ha fun u0=>isInt hb fun u0=>P.gt_int q0
   | _=>exact no h
  | _=>exact no h
 | GtE=>cases a with
  | int i=>cases b with
   | int j=>cases h;exact isInt ha fun u0=>isInt hb fun u0=>P.ge_int q0
   | _=>exact no h
  | _=>exact no h
 | LtE=>cases a with
  | int i=>cases b with
   | int j=>cases h;exact isInt ha fun u0=>isInt hb fun u0=>P.le_int q0
   | _=>exact no h
  | str i=>cases b with
   | str j=>cases h;exact isStr ha fun u0=>isStr hb fun u0=>P.le_str q0
   | _=>exact no h
  | _=>exact no h
 | In=>cases a with
  | int i=>cases b with
   | ref j =>
    refine Z8i h fun xs hx h=>?_;obtain ⟨_,vs,ep,h1,h2⟩:=ZL R hx;refine isInt ha fun t=>isRef hb fun u0=>?_;obtain ⟨e,e1,e2⟩:=Z8H (A:=A) (t:=t) ⟨_,h1,rfl,_,rfl⟩ h2 h;exact SeqAt.in_tupleAt e ⟨_,h1,rfl,_,rfl⟩ e1 (by rw [e2]; exact q0)
   | _=>exact no h
  | str i=>cases b with
   | str j=>cases h;exact isStr ha fun u0=>isStr hb fun u0=>SB.contains q0
   | ref j =>
    have dic:∀ es,Y2 c.ro st (.ref j)=some es→some (Z2 i es).isSome=some r→wpAny (model c.prog c.w) A (compareOp .In va vb) Q E s:=fun es he h=>by
     (refine xEEEAAAA (QF C R he hb) ?_;intro i' kvs ep e1 o1 e3 e4 e5;subst o1)
     cases h
     exact isStr ha fun t=>wpAny_in_of (knd:=strKind c.prog c.w) (QG _ t) e5 e3.dictOf.mapOf (by rw [Z5s _ e4]; exact hq _)
    refine Zfq h (fun xs hx h=>?_) (fun es hx h=>dic es (Xi hx) h) fun es k hx h=>dic es (Z0F hx) h;obtain ⟨_,vs,ep,h1,h2⟩:=ZL R hx;refine isStr ha fun t=>isRef hb fun u0=>?_;obtain ⟨e,e1,e2⟩:=Z7p (A:=A) (t:=t) ⟨_,h1,rfl,_,rfl⟩ h2 h;exact SeqAt.in_tupleAt e ⟨_,h1,rfl,_,rfl⟩ e1 (by rw [e2]; exact q0)
   | _=>exact no h
  | _=>exact no h
 | NotIn=>cases a with
  | int i=>cases b with
   | ref j =>
    refine Z8i h fun xs hx h=>?_
    (refine xEA (Z5q h) ?_;intro r' h' o2;subst o2)
    obtain ⟨_,vs,ep,h1,h2⟩:=ZL R hx;refine isInt ha fun t=>isRef hb fun u0=>?_;obtain ⟨e,e1,e2⟩:=Z8H (A:=A) (t:=t) ⟨_,h1,rfl,_,rfl⟩ h2 h';exact SeqAt.notIn_tupleAt e ⟨_,h1,rfl,_,rfl⟩ e1 (by rw [e2]; exact q0)
   | _=>exact no h
  | str i=>cases b with
   | ref j =>
    refine Z8i h fun xs hx h=>?_
    (refine xEA (Z5q h) ?_;intro r' h' o3;subst o3)
    obtain ⟨_,vs,ep,h1,h2⟩:=ZL R hx;refine isStr ha fun t=>isRef hb fun u0=>?_;obtain ⟨e,e1,e2⟩:=Z7p (A:=A) (t:=t) ⟨_,h1,rfl,_,rfl⟩ h2 h';exact SeqAt.notIn_tupleAt e ⟨_,h1,rfl,_,rfl⟩ e1 (by rw [e2]; exact q0)
   | _=>exact no h
  | _=>exact no h
end
structure Z6V (c:Cfg)(C:Nat)(r:Qu):Prop where
 keep:keepIn c.K (.ref C)=true
 ga:findIn c.K (.ref C) "__getattribute__"=some (some (.builtin "object.__getattribute__"))
 gh:findIn c.K (.ref C) "__getattr__"=some none
 sa:findIn c.K (.ref C) "__setattr__"=some (some (.builtin "object.__setattr__"))
 over:plainOver c.K C=true
 dict:(clsIn c.K C).any (·.hasDict)=true
 attrs:∀ x,JE x r.attrs=true→findIn c.K (.ref C) x=some none
 meths:∀ x f,Y6 x r.ms=some f→findIn c.K (.ref C) x=some (some (.ref f))∧typeIn c.K (.ref f)=some (.type "function")
 makes:makesIn c.K C=true
 init:findIn c.K (.ref C) "__init__"=some (some (.ref r.init))∧typeIn c.K (.ref r.init)=some (.type "function")
 data:∃ o,c.K.lookup C=some o∧(∃ cd,o.data = .cls cd)∧o.cls = .type "type"
section
variable {c:Cfg}{T:Tab}{rec:Ev}{ρ:Rho}{st st' st1:St}{s:Shared}{A:Around}{E:Value→Shared→Prop}{ξ:Z3}{env:Env}
theorem Z9s (h:XZ k=some v)(R:Rel c ρ st s):wpAny (model c.prog c.w) A (constValue env k) (PV c ρ st.n st v) E s:=by
 induction k using PySem.Const.casesOn<;>cases h
 ·exact W0k (Z7.here R rfl)
 ·exact W0k (Z7.here R rfl)
 ·exact wpAny_mkInt (Z7.here (R.toks _) ⟨_,rfl⟩)
 ·exact wpAny_mkText (Z7.here (R.toks _) ⟨_,rfl⟩)
theorem Z2L (h:seqIndex? i n=some j)(hi:0≤i):j=i.toNat:=by
 unfold seqIndex? at h;simp only [Int.not_lt.mpr hi,if_false] at h
 split at h
 ·cases h;rfl
 ·cases h
theorem Z5f (h:seqIndex? i n=some j)(hi:i<0):j=(i+n).toNat∧-(n:Int)≤i:=by
 unfold seqIndex? at h;simp only [hi,if_true] at h
 split at h
 ·rename_i q;simp only [and_eq_true,decide_eq_true_eq] at q
  cases h;exact ⟨rfl,by omega⟩
 ·cases h
theorem Z5u (h:Qb k=true):-(2 ^ 63)≤k∧k<2 ^ 63:=by
 (first | delta Qb at h | unfold Qb at h)
 simp only [and_eq_true,decide_eq_true_eq] at h;omega
theorem Z9b (h:JH xs i=some x):∃ j,Qb i=true∧seqIndex? i xs.length=some j∧xs[j]?=some x:=by
 exact bT h fun hf h=>bE h fun j h1 h2=>⟨j,hf,h1,h2⟩
theorem QH {G:Prop}{α:Type}{f:Int→Option α}{y:α}(h:gI a f=some y)(g:∀ k,a = .int k→f k=some y→G):G:=by
 cases a with
 | int k=>exact g k rfl h
 | _=>exact no h
theorem Xj {G:Prop}{α:Type}{f:Str→Option α}{y:α}(h:gS a f=some y)(g:∀ k,a = .str k→f k=some y→G):G:=by
 cases a with
 | str k=>exact g k rfl h
 | _=>exact no h
theorem Z6S (X:YT c T)(C:c.Ok)(R:Rel c ρ st s)(h:YD T c.ro st o i=some x)(ho:o.Is ρ st.n vo)(hi:i.Is ρ st.n vi) 
  (hq:∀ v t,x.Is ρ st.n v→Q v { s with toks:=t }) :
  (∃ (Ty id:String),s.TypeIs vo Ty∧typeLookup (.type Ty) "__getitem__"=pure (some (.builtin id)))∧wpAny (model c.prog c.w) A (getItem vo vi) Q E s:=by
 have tup:∀ (a:Addr) (xs:List MV) (vs:Array Value) (ep:Nat) (k:Int) (t:Tok),s.heap.get? a=some { cls:=.type "tuple",data:=.seq vs ep }→Are ρ st.n xs vs.toList→JH xs k=some x →
   (∃ (Ty id:String),s.TypeIs (.ref a) Ty∧typeLookup (.type Ty) "__getitem__"=pure (some (.builtin id)))∧wpAny (model c.prog c.w) A (getItem (.ref a) (.int k t)) Q E s:=by
  intro a xs vs ep k t h1 h2 h3;have ht:s.heap.IsTuple a vs:=⟨_,h1,rfl,_,rfl⟩;obtain ⟨j,hf,hj,hx⟩:=Z9b h3;obtain ⟨u,hu,hxu⟩:=h2.get hx;have hl:=h2.length;simp only [length_toList] at hl;obtain ⟨f1,f2⟩:=Z5u hf;exact ⟨⟨_,_,ht.typeIs,slot_tuple_getitem.lookup⟩,PyProof.Rows.getItem_tuple ht f1 f2 (by rw [(hl)]; exact hj) (by simpa using hu) (hq u s.toks hxu)⟩
 have dic:∀ (v:Value) (es:List (Str×MV)) (k:Str) (t:Tok) (o:MV),Y2 c.ro st o=some es→o.Is ρ st.n v→Z2 k es=some x →
   (∃ (Ty id:String),s.TypeIs v Ty∧typeLookup (.type Ty) "__getitem__"=pure (some (.builtin id)))∧wpAny (model c.prog c.w) A (getItem v (.str k t)) Q E s:=by
  intro v es k t o h1 h2 h3
  (refine xEEEAAAA (QF C R h1 h2) ?_;intro i kvs ep e1 o0 e3 e4 e5;subst o0)
  have z:=Z0V k e4;rw [h3] at z;obtain ⟨u,hu,hxu⟩:=z;exact ⟨⟨_,_,e3.dictOf.typeIs,slot_dict_getitem.lookup⟩,wpAny_getItem_of (knd:=PySem.strKind c.prog c.w) (QG k t) e3.dictOf.mapOf hu (hq u _ hxu)⟩
 cases o with
 | str y =>
  (refine xE ho ?_;(try clear ho);intro t o1;subst o1)
  refine QH h fun k hk h=>?_;subst hk
  (refine xE hi ?_;(try clear hi);intro u o2;subst o2)
  obtain ⟨z,h1,h2⟩:=map_eq_some_iff.mp h;refine bT h1 fun hf h1=>?_
  (refine xEA (map_eq_some_iff.mp h1) ?_;intro d h3 o3;subst o3)
  cases h2
  obtain ⟨f1,f2⟩:=Z5u hf;refine ⟨⟨_,_,typeIs_str _ _ _,PySem.F.slot_str_getitem.lookup⟩,P.getItem_str ?_ h3 (hq _ _ ⟨_,rfl⟩)⟩;omega
 | old a =>
  cases ho
  refine QH h fun k hk h=>?_;subst hk
  (refine xE hi ?_;(try clear hi);intro u o4;subst o4)
  refine bE h fun xs h1 h2=>?_;obtain ⟨_,vs,ep,e1,e2⟩:=Z3o X C R h1;exact tup _ _ _ _ _ _ e1 e2 h2
 | ref j =>
  (refine xA ho ?_;(try clear ho);intro hjn o5;subst o5)
  have h:Zk1 i (rd c.ro st j)=some x:=h
  cases hr:rd c.ro st j with
  | none=>rw [hr] at h;exact no h
  | some ob =>
  rw [hr] at h
  cases ob with
  | tup xs =>
   refine QH h fun k hk h=>?_;subst hk
   (refine xE hi ?_;(try clear hi);intro u o6;subst o6)
   obtain ⟨_,vs,ep,e1,e2⟩:=ZL R hr;exact tup _ _ _ _ _ _ e1 e2 h
  | list xs =>
   refine QH h fun k hk h=>?_;subst hk
   (refine xE hi ?_;(try clear hi);intro u o7;subst o7)
   obtain ⟨_,vs,ep,e1,h2⟩:=ZL R hr;have ht:s.heap.IsList _ vs:=⟨_,e1,rfl,_,rfl⟩;obtain ⟨m,hf,hj,hx⟩:=Z9b h;obtain ⟨w,hw,hxw⟩:=h2.get hx;have hl:=h2.length;simp only [length_toList] at hl;obtain ⟨f1,f2⟩:=Z5u hf;refine ⟨⟨_,_,ht.typeIs,list_getitem_lookup⟩,?_⟩;by_cases h0:0≤k
   ·rw [Z2L hj h0] at hw;exact wpAny_getItem_list ht h0 f2 (by simpa using hw) (hq w s.toks hxw)
   ·(refine xA (Z5f hj (by omega)) ?_;intro o8 z;subst o8)
    exact wpAny_getItem_list_neg ht (by omega) (by rw [hl]; exact z) f1 (by rw [hl]; simpa using hw) (hq w s.toks hxw)
  | dict es =>
   refine Xj h fun k hk h=>?_;subst hk
   (refine xE hi ?_;(try clear hi);intro u o9;subst o9)
   exact dic _ es k u (.ref _) (Xi hr) ⟨hjn,rfl⟩ h
  | fdict es _ =>
   refine Xj h fun k hk h=>?_;subst hk
   (refine xE hi ?_;(try clear hi);intro u o10;subst o10)
   exact dic _ es k u (.ref _) (Z0F hr) ⟨hjn,rfl⟩ h
  | _=>exact no h
 | _=>exact no h
theorem Z68 {Ty id:String}(hT:s.TypeIs o Ty)(hl:typeLookup (.type Ty) "__getitem__"=pure (some (.builtin id)))
  (h:wpAny (model c.prog c.w) A (getItem o i) Q E s):wpAny (model c.prog c.w) A (subscriptTail value slice o i) Q E s:=by
 unfold subscriptTail;refine W0j ?_;rw [getitemInPython_of_ne hT.not_modules];refine W0j (wpAny_specialOf hT hl ?_);have fin:wpAny (model c.prog c.w) A (subscripted slice false o i) (fun r s₃=>wpAny (model c.prog c.w) A (letTemporaryGo value o r >>= fun u0=>pure r) Q E s₃) E s:=by
  have z:∀ l,wpAny (model c.prog c.w) A (operate l (getItem o i)) (fun r s₃=>wpAny (model c.prog c.w) A (letTemporaryGo value o r >>= fun u0=>pure r) Q E s₃) E s :=
   fun l=>wpAny_operateT (wpAny_mono h (fun r s₃ h₃=>W0j (wpAny_letTemporaryGo (W0k h₃))) fun u0 u0 x=>x)
  induction slice using PySem.Expr.casesOn with
  | Slice _ _ st _=>induction st using Option.casesOn<;>exact z _
  | _=>exact z _
 exact W0k (W0j fin)
end
section
variable {c:Cfg}{T:Tab}{rec:Ev}{ρ:Rho}{st st' st1:St}{s:Shared}{A:Around}{E:Value→Shared→Prop}{ξ:Z3}{env:Env}
theorem Z7E (R:Rel c ρ st s)(o:Obj)(t:Nat):Rel c ρ st { s with heap:=s.heap.push o,toks:=t } :=
 R.more t (fun u0 u0 e=>get?_push_of_some _ e)
theorem Z4K (h:ZlU x=some l)(hx:x.Is ρ st.n v):IsPart v l∧∃ p,v=partValue p∧p.map (·.1)=l:=by
 induction x using MV.casesOn with
 | none=>refine injS h fun h=>?_;subst h;cases hx;exact ⟨.none,none,rfl,rfl⟩
 | int i=>refine injS h fun h=>?_;subst h;(refine xE hx ?_;(try clear hx);intro t o0;subst o0);exact ⟨.int _ _,some (_,t),rfl,rfl⟩
 | _=>exact no h
theorem Za0 (C:c.Ok)(R:Rel c ρ st s)(h:ZjC c.ro st o l u=some (.v x,st'))(ho:o.Is ρ st.n vo)(hl:l.Is ρ st.n vl)(hu:u.Is ρ st.n vu)
  (hs1:s1={ s with heap:=s.heap.push { cls:=.type "slice",data:=.fields #[vl,vu,.none] } }) :
  (∃ (Ty id:String),s1.TypeIs vo Ty∧typeLookup (.type Ty) "__getitem__"=pure (some (.builtin id))) ∧
  wpAny (model c.prog c.w) A (getItem vo (.ref s.heap.objs.size)) (PV c ρ st.n st' x) E s1:=by
 have R1:Rel c ρ st s1:=by subst hs1;exact Z7E R _ s.toks
 have hsl:s1.heap.get? s.heap.objs.size=some { cls:=.type "slice",data:=.fields #[vl,vu,.none] }:=by subst hs1;exact get?_push_size _ rfl
 refine bE h fun l' hl' h=>bE h fun u' hu' h=>?_
 (refine xAEA (Z4K hl' hl) ?_;intro p1 pl o0 p2;subst o0)
 (refine xAEA (Z4K hu' hu) ?_;intro q1 pu o1 q2;subst o1)
 cases o with
 | str y =>
  (refine xE ho ?_;(try clear ho);intro t o2;subst o2)
  refine bT h fun hsh h=>?_
  ·cases h
   refine ⟨⟨"str",_,typeIs_str _ _ _,PySem.F.slot_str_getitem.lookup⟩,wpAny_getItem_str_slice (l:=pl) (u:=pu) (st:=none) ⟨_,hsl,rfl,rfl⟩ rfl ?_⟩;have e:sliceMade y t pl pu none=if ((1:Int)==1&&(Builtin.Str.strSliceIndices l' u' 1 y.length).length==y.length)=true then .val (.str y t) else .str ⟨((Builtin.Str.strSliceIndices l' u' 1 y.length).filterMap (y.cps[·]?)).toArray⟩:=by
    unfold sliceMade slicePicked;rw [p2,q2];rfl
   rw [e]
   split
   ·rename_i q;have hS:ZiD y l' u'=y:=by unfold ZiD Txt.slice;rw [if_pos q]
    exact Z7.here R1 ⟨t,by rw [(hS)]⟩
   ·rename_i q;have hS:ZiD y l' u'=⟨((Builtin.Str.strSliceIndices l' u' 1 y.length).filterMap (y.cps[·]?)).toArray⟩:=by unfold ZiD Txt.slice;rw [if_neg q]
    refine ⟨?_,Z7.here (R1.toks _) ⟨_,by rw [(hS)]⟩⟩;have z:=Txt.slice_le y l' u';unfold Txt.slice at z;rw [if_neg q] at z;have:=Z1k hsh;unfold sizeLine
    repeat clear h
    omega
 | ref j =>
  (refine xA ho ?_;(try clear ho);intro hjn o3;subst o3)
  refine QD h fun xs hr h=>?_
  ·refine bT h fun hz h=>?_
   (refine xAA (Zcc h) ?_;intro hb hx o4;subst o4)
   cases hx
   obtain ⟨_,vs,ep,e1,r1⟩:=ZL R1 hr;have hL:s1.heap.IsList _ vs:=⟨_,e1,rfl,_,rfl⟩;refine ⟨⟨_,_,hL.typeIs,list_getitem_lookup⟩,wpAny_getItem_list_slice hL ⟨_,hsl,rfl,rfl⟩ p1 q1 .none (by simp) ?_ ?_⟩
   ·rw [slicePick_plain];refine Z2B R1 C hb 0 ?_ s1.toks _ rfl;have hlen:=r1.length;simp only [length_toList] at hlen;rw [hlen];exact (r1.drop _).take _
   ·have hlen:=r1.length;simp only [length_toList] at hlen;have:=W06 hz;unfold lim at this;unfold sizeLine
    repeat clear h
    omega
 | _=>exact no h
theorem J9.set (h:J9 ρ n m f)(hv:v.Is ρ n u):J9 ρ n (Zh x v m) (fun y=>if y=x then some u else f y):=by
 have key:∀ (m:List (Str×MV)) (y:Str),Z2 y (Zh x v m)=if y=x then some v else Z2 y m:=by
  intro m
  induction m with
  | nil =>
   intro y;by_cases e:y=x
   ·subst e;simp [Zh,Z2]
   ·have e':¬ x=y:=fun q=>e q.symm;simp [Zh,Z2,e,e']
  | cons p m ih =>
   obtain ⟨k,w⟩:=p;intro y;unfold Zh;by_cases hk:k=x
   ·simp only [hk,decide_true];subst hk;by_cases e:y=k
    ·subst e;simp [Z2]
    ·have e':¬ k=y:=fun q=>e q.symm;simp [Z2,e,e']
   ·simp only [hk,decide_false];unfold Z2;by_cases e:k=y
    ·subst e;simp [hk]
    ·simp only [e,decide_false];exact ih y
 intro y;have z:=h y;rw [key];by_cases e:y=x
 ·subst e;simp only [if_true]; exact ⟨u,rfl,hv⟩
 ·simp only [e,if_false]; exact z
theorem rdF {G:Prop}{α:Type}{x:α}{o:Option MObj}{F:List (Str×MV)→Option α}(h:(match o with | some (.frame l)=>F l | _=>none)=some x)(g:∀ l,o=some (.frame l)→F l=some x→G):G:=by
 cases o with
 | none=>exact no h
 | some o=>cases o with
  | frame l=>exact g l rfl h
  | _=>exact no h
theorem rdC {G:Prop}{α:Type}{x:α}{o:Option MObj}{F:Option α}(h:(match o with | some (.cell _)=>F | _=>none)=some x)(g:∀ l,o=some (.cell l)→F=some x→G):G:=by
 cases o with
 | none=>exact no h
 | some o=>cases o with
  | cell l=>exact g l rfl h
  | _=>exact no h
theorem Z1j (h:Zx ξ x v st k=some z)(R:Rel c ρ st s)(e:Zc ρ st.n ξ env)(hv:v.Is ρ st.n u) 
  (hq:∀ st1 s1,k st1=some z→st1.n=st.n→Rel c ρ st1 s1→Q () s1):wpAny (model c.prog c.w) A (storeName env x u) Q E s:=by
 refine bT' h fun hk h=>?_;have hk:env.scope.kind = .function:=by rw [e.sc]; exact Q2 hk
 have hko:=Z0S e.sc x;refine Zdh h (fun hl h=>?_) fun hl h=>?_
 ·rw [hl] at hko;refine rdF h fun m hm h=>?_
  (refine xAA (R.at_ _ _ hm) ?_;intro _ o0 _;obtain ⟨f,hn,hf⟩:=o0)
  have hn':=hn;rw [← e.loc] at hn';refine wpAny_storeName_local hko hn' (fun h' n' sb=>hq _ _ h rfl (R.upd (h':=h') _ hm (fun b ob hb he=>?_) ?_ ⟨_,?_,J9.set hf hv⟩)) (by rw [hk]; rfl)
  ·rw [e.loc] at sb;exact sb.extBut b ob hb he
  ·exact W0b sb.1.symm
  ·rw [← e.loc]; exact n'
 ·rw [hl] at hko;refine bE h fun j hj h=>?_;obtain ⟨hjn,hjc⟩:=e.cells x j hj;refine rdC h fun w hw h=>?_;have hc:∃ v₀,s.heap.IsCell (ρ.a j) v₀:=by
   obtain ⟨_,z,_⟩:=R.at_ _ _ hw
   cases w with
   | none=>obtain ⟨o,h1,h2⟩:=z;exact ⟨_,o,h1,h2⟩
   | some w=>obtain ⟨o,_,h1,h2,_⟩:=z;exact ⟨_,o,h1,h2⟩
  obtain ⟨v₀,hc⟩:=hc;refine wpAny_storeName_cell hk hko hjc hc fun h' c' sb=>hq _ _ h rfl ?_
  (refine xEA c' ?_;(try clear c');intro o h1 h2)
  exact R.upd (h':=h') s.toks hw (fun b ob hb he=>sb.extBut b ob hb he) (W0b sb.1.symm) ⟨o,u,h1,h2,hv⟩
end
section
variable {c:Cfg}{T:Tab}{rec:Ev}{ρ:Rho}{st st' st1:St}{s:Shared}{A:Around}{E:Value→Shared→Prop}{ξ:Z3}{env:Env}
theorem Zu.keys:∀ {es:List (Str×MV)}{kvs:List (Str×Value)},Zu ρ n es kvs→kvs.map (·.1)=es.map (·.1)
 | [],[],_=>rfl
 | (_,_)::_,(_,_)::_,h=>by rw [map_cons,map_cons,Zu.keys h.2.2,h.1]
 | [],_::_,h=>h.elim
 | _::_,[],h=>h.elim
theorem Zu.length (h:Zu ρ n es kvs):kvs.length=es.length:=by
 have:=congrArg List.length h.keys
 simpa using this
theorem Zu.put (hv:x.Is ρ n v):∀ {es:List (Str×MV)}{kvs:List (Str×Value)},Zu ρ n es kvs→(kvs.map (·.1)).Nodup→Zu ρ n (Zh k x es) (stored kvs k v)
 | [],[],_,_=>⟨rfl,hv,trivial⟩
 | (j,y)::es,(j',u)::kvs,h,hd=>by
  (refine xAA h ?_;(try clear h);intro o0 h2 h3;subst o0)
  rw [map_cons,nodup_cons] at hd;have ih:=Zu.put (k:=k) hv h3 hd.2;unfold Zh;by_cases hk:j=k
  ·subst hk;simp only [decide_true];have e:stored ((j,u)::kvs) j v=(j,v)::kvs:=by
    unfold stored;rw [if_pos (by simp),map_cons,map_store_of_not_mem kvs j v hd.1];simp
   rw [e];exact ⟨rfl,hv,h3⟩
  ·simp only [hk,decide_false];have e:stored ((j,u)::kvs) k v=(j,u)::stored kvs k v:=by
    unfold stored;by_cases ha:(kvs.any fun kv=>decide (kv.1=k))=true
    ·rw [if_pos ha,if_pos (by rw [any_cons,ha,Bool.or_true]),map_cons];simp [hk]
    ·rw [if_neg ha,if_neg (by rw [any_cons]; simp [hk]; simpa using ha)];rfl
   rw [e];exact ⟨rfl,h2,ih⟩
 | [],_::_,h,_=>h.elim
 | _::_,[],h,_=>h.elim
theorem Z1F (R:Rel c ρ st s)(hi:st.get i=some o₀)(t:Nat)(hd:h'.DictOf (PySem.strKind c.prog c.w) (ρ.a i) kvs)(sb:SameBut (ρ.a i) s.heap h')
  (ha:Zu ρ st.n es kvs) (h0:ZE o₀=false:=by rfl):Rel c ρ (st.put i (.dict es)) { s with heap:=h',toks:=t }:=by
 obtain ⟨ep,hd⟩:=hd.dictAt;exact R.upd (h':=h') t hi (fun b ob hb he=>sb.extBut b ob hb he) (W0b sb.1.symm) ⟨kvs,ep,hd,ha⟩ fun u0=>⟨rfl,fun q=>by rw [h0] at q;cases q⟩
theorem Z4v {items:Array Value}{k:Int}(ho:s.heap.get? l=some { cls:=.type "list",data:=.seq items ep })(h0:0≤k)(hs:k<2 ^ 63)(hn:k<items.size)
  (hQ:∀ h' ep',h'.get? l=some { cls:=.type "list",data:=.seq (items.setIfInBounds k.toNat v) ep' }→SameBut l s.heap h'→Q () { s with heap:=h' }) :
  wpAny (model prog w) A (setItem (.ref l) (.int k t) v) Q E s:=by
 have hl:s.heap.IsList l items:=⟨_,ho,rfl,_,rfl⟩;unfold setItem
 try with_reducible refine wpAny_holding ?_
 refine W0j (wpAny_sequenceKey hl.typeIs (by decide) ?_);refine W0j (wpAny_callSpecial?_slot (name:=ofString "__setitem__") hl.typeIs slot_list_setitem (wpAny_call_entry slot_list_setitem hl.typeIs entry_list_setitem ?_ (args_list_setitem _ _ _)));show wpAny _ _ (Builtin.List.listSubscript? (.int k t) >>= _) _ _ s;refine W0j (wpAny_listSubscript_int (fitsIndex_of h0 hs) ?_)
 clear hs
 (refine xE (eq_ofNat_of_zero_le h0) ?_;intro n o0;subst o0)
 have hn:n<items.size:=by omega
 have hm:((n:Int)).toNat=n:=Int.toNat_natCast n;rw [hm] at hQ;show wpAny _ _ ((seqItemAt l n >>= fun r=>pure (r.map (n,·))) >>= _) _ _ s;refine W0j (W0j (wpAny_seqItemAt ho rfl (W0k ?_)));rw [Array.getElem?_eq_getElem hn];show wpAny _ _ (setSeqItemAt l n v >>= _) _ _ s;have g:=get?_update_self (h:=s.heap) (Obj.mapSeq (·.setIfInBounds n v)) ho rfl;refine W0j (wpAny_setSeqItemAt ho rfl ?_)
 have z:=hQ _ _ g (SameBut.update ..)
 first
  | exact W0j (W0k (W0k ⟨.none,rfl,W0k z⟩))
  | exact W0k ⟨.none,rfl,W0k z⟩
theorem Are.set (hv:x.Is ρ n v):∀ {xs:List MV}{vs:List Value}(i:Nat),Are ρ n xs vs→Are ρ n (xs.set i x) (vs.set i v)
 | [],[],_,_=>trivial
 | _::_,_::_,0,h=>⟨hv,h.2⟩
 | _::_,_::_,i+1,h=>⟨h.1,Are.set hv i h.2⟩
 | [],_::_,_,h=>h.elim
 | _::_,[],_,h=>h.elim
theorem Z6W (C:c.Ok)(R:Rel c ρ st s)(h:Xd st o i v k=some z)(ho:o.Is ρ st.n vo)(hi:i.Is ρ st.n vi)(hv:v.Is ρ st.n u) 
  (hq:∀ st1 s1,k st1=some z→st1.n=st.n→Rel c ρ st1 s1→Q () s1):wpAny (model c.prog c.w) A (setItem vo vi u) Q E s:=by
 cases o with
 | ref j =>
  (refine xA ho ?_;(try clear ho);intro hjn o0;subst o0)
  have h:Zit st j i v k (st.get j)=some z:=h
  cases hg:st.get j with
  | none=>rw [hg] at h;exact no h
  | some ob =>
  rw [hg] at h
  cases ob with
  | dict es =>
   refine Xj h fun x hx h1=>bT h1 fun hz hk=>?_
   ·clear h h1;subst hx
    (refine xE hi ?_;(try clear hi);intro t o1;subst o1)
    (refine xAA (R.at_ _ _ hg) ?_;intro _ o2 _;obtain ⟨kvs,ep,h1,h2⟩:=o2)
    refine wpAny_setItem_pairs (knd:=PySem.strKind c.prog c.w) (QG x t) h1.dictOf (fun h' hd sb=>hq _ _ hk rfl (Z1F R hg _ hd sb (h2.put hv h1.nodup))) ?_;rw [h2.length];have:=W06 hz;unfold sizeLine;omega
  | list xs =>
   refine QH h fun n hx h3=>bTT h3 fun h0 h1 h2=>?_
   ·clear h h3;subst hx
    (refine xE hi ?_;(try clear hi);intro t o3;subst o3)
    (refine xAA (R.at_ _ _ hg) ?_;intro _ o4 _;obtain ⟨vs,ep,e1,e2⟩:=o4)
    have hl:=e2.length;simp only [length_toList] at hl;have h1:n.toNat<xs.length∧xs.length≤1000000:=by
     simp only [and_eq_true] at h1;exact ⟨W06 h1.1,W06 h1.2⟩
    have h0:=of_decide_eq_true h0;refine Z4v e1 h0 (by omega) (by omega) fun h' ep' g sb=>hq _ _ h2 rfl (R.upd (h':=h') s.toks hg (fun b ob hb he=>sb.extBut b ob hb he) (W0b sb.1.symm) ⟨_,ep',g,?_⟩);rw [Array.toList_setIfInBounds];exact e2.set hv _
  | _=>exact no h
 | _=>exact no h
theorem Z5G (C:c.Ok)(R:Rel c ρ st s)(h:rd c.ro st i=some (.inst C' d))(he:Y2 c.ro st (.ref d)=some es) :
  ∃ od kvs ep,InstAt s.heap (ρ.a i) (instObj C' (ρ.a d)) C' (some od)∧s.heap.get? (ρ.a d)=some od∧Dct c s.heap (ρ.a d) kvs ep∧Zu ρ st.n es kvs∧∀ x,lookIn x od=some (valueAt kvs x):=by
 obtain ⟨_,hdn,h1⟩:=ZL R h;obtain ⟨j,kvs,ep,e1,e2,e3,e4,e5⟩:=QF C R he (v:=.ref (ρ.a d)) ⟨hdn,rfl⟩;obtain ⟨rfl⟩:d=j:=by cases e1;rfl
 (refine xEEAAAAA (id e3) ?_;intro od es' o1 o2 o3 o4 o5 o6)
 refine ⟨od,kvs,ep,⟨h1,rfl,rfl,o1⟩,o1,e3,e4,fun x=>?_⟩;unfold lookIn;rw [o3];dsimp only;have hf:=Pairs.find o5 x;have heq:(es'.toList.find? fun e=>e.key.isStr x)=es'.toList.find? fun e=>(PySem.strKind c.prog c.w).is x e.key:=by
  congr 1
  funext e
  show e.key.isStr x=Value.isStrOf x e.key
  cases e.key<;>rfl
 rw [heq]
 cases hx:es'.toList.find? fun e=>(PySem.strKind c.prog c.w).is x e.key with
 | some e=>rw [hx] at hf;rw [← hf]; rfl
 | none =>
  rw [hx] at hf;rw [← hf];dsimp only;rw [if_neg]
  ·rfl
  ·intro q;rw [List.any_eq_true] at q;obtain ⟨e,he1,he2⟩:=q;obtain ⟨k,hk,_⟩:=o4 e (by simpa using he1);have:Value.isStrOf k e.key=true:=hk;obtain ⟨t,ht⟩:=Value.isStrOf_shape this;simp [DictEntry.refKey,ht] at he2
theorem rdI {G:Prop}{α:Type}{x:α}{o:Option MObj}{F:Nat→Nat→Option α}(h:(match o with | some (.inst C d)=>F C d | _=>none)=some x)(g:∀ C d,o=some (.inst C d)→F C d=some x→G):G:=by
 cases o with
 | none=>exact no h
 | some o=>induction o using MObj.casesOn with
  | inst C d=>exact g C d rfl h
  | _=>exact no h
theorem Z7u (X:YT c T)(Y:∀ C r,T.cls C=some r→Z6V c C r)(C:c.Ok)(R:Rel c ρ st s)(h:XU T c.ro st o name=some x)(ho:o.Is ρ st.n vo) 
  (hq:∀ v t,x.Is ρ st.n v→Q v { s with toks:=t }):wpAny (model c.prog c.w) A (getAttr vo name b) Q E s:=by
 cases o with
 | ref i =>
  (refine xA ho ?_;(try clear ho);intro hi o0;subst o0)
  refine rdI h fun C' d hr h=>bE h fun r hc h=>bT h fun hm h=>bE h fun es he h=>?_;obtain ⟨od,kvs,ep,I,_,_,e4,e5⟩:=Z5G C R hr he;have z:=Z0V name e4;rw [h] at z;obtain ⟨v,hv,hx⟩:=z;have K:=Y _ _ hc;have hn:=K.attrs name hm;obtain ⟨cd,hcd,hdi⟩:=any_some K.dict;refine get_value (R.kin C) I K.ga (v:=v) ?_ ?_ (hq v _ hx)
  ·unfold findObj;rw [hcd,bind_some,hn,bind_some];simp only [bind_some,W.ownOf,hdi,if_true,e5,hv]
  ·induction x using MV.casesOn with
   | none=>cases hx;rfl
   | bool=>cases hx;rfl
   | int=>(refine xE hx ?_;(try clear hx);intro t o1;subst o1);rfl
   | str=>(refine xE hx ?_;(try clear hx);intro t o2;subst o2);rfl
   | ref=>(refine xA hx ?_;(try clear hx);intro _ o3;subst o3);rfl
   | old=>cases hx;rfl
   | bi b=>cases hx;induction b using Bi.casesOn<;>decide +kernel
 | _=>exact no h
end
section
variable {prog:Program}{w:World}{A:Around}{E:Value→Shared→Prop}{s:Shared}
theorem Za5 (name:Str)(v:Value):v.isStr name=(PySem.strKind prog w).is name v:=by
 show v.isStr name=Value.isStrOf name v
 induction v using PySem.Value.casesOn<;>rfl
theorem Z45 (hm:s.heap.DictOf (PySem.strKind prog w) d kvs)
  (hQ:∀ h',h'.DictOf (PySem.strKind prog w) d (stored kvs name v)→SameBut d s.heap h'→Q () { s with heap:=h',toks:=s.toks+1 }):wpAny (model prog w) A (nsSet d name v) Q E s:=by
 obtain ⟨o,es,ep,ho,hc,hd,hk,hp,hn⟩:=hm;unfold nsSet;refine W0j (W0j (wpAny_askSetting (W0k (W0j (wpAny_mkText (W0j (wpAny_loadPart ho ?_)))))));rw [hd];dsimp only;have hany:es.any (·.refKey)=false:=by
  rw [Array.any_eq_false'];intro e he;obtain ⟨n,h1,_⟩:=hk e he;obtain ⟨t,ht⟩:=Value.isStrOf_shape (x:=n) h1;simp [DictEntry.refKey,ht]
 have c:(!es.any (·.key.isStr name)&&es.any (·.refKey))=false:=by rw [hany,Bool.and_false]
 rw [aRefKeyMayBeTheName_at,c];refine wpAny_updatePart ho ?_;refine hQ _ ?_ (SameBut.update ..);obtain ⟨oc,od,odt,osl⟩:=o;obtain ⟨h1,h2,h3⟩:=hc;dsimp only at hd h1 h2 h3;subst hd h1 h2 h3;have heq:(es.findIdx? fun e=>e.key.isStr name)=es.findIdx? fun e=>(PySem.strKind prog w).is name e.key:=by
  congr 1;funext e;exact Za5 name e.key
 have hl:(es.toList.findIdx? fun e=>(PySem.strKind prog w).is name e.key)=es.findIdx? fun e=>(PySem.strKind prog w).is name e.key:=by obtain ⟨l⟩:=es;simp
 have hkv:=hp.findIdx name;rw [hl] at hkv
 cases hi:es.findIdx? fun e=>(PySem.strKind prog w).is name e.key with
 | some i =>
  rw [hi] at hkv hl;refine ⟨_,es.modify i (fun e=>{ e with val:=v }),ep,get?_update_self _ ho (by simp only [Obj.putName_eq,Obj.putNameByArray,heq,hi]; rfl),?_,?_,hk.modify _ _,?_,?_⟩
  ·simp only [Obj.putName_eq,Obj.putNameByArray,heq,hi]; exact ⟨rfl,rfl,rfl⟩
  ·simp only [Obj.putName_eq,Obj.putNameByArray,heq,hi]
  ·rw [stored,if_pos (any_of_findIdx_some hkv.symm)];have:=hp.modify hn hl v;obtain ⟨l⟩:=es
   simpa using this
  ·rw [stored,if_pos (any_of_findIdx_some hkv.symm),keys_map_store]; exact hn
 | none =>
  rw [hi] at hkv;have hnot:name∉kvs.map (·.1):=not_mem_of_findIdx_none hkv.symm;have hany:¬ (kvs.any fun kv=>decide (kv.1=name))=true:=by
   rw [List.any_eq_true]; rintro ⟨kv,hkv,he⟩;exact hnot (mem_map.mpr ⟨kv,hkv,of_decide_eq_true he⟩)
  have hkey:(PySem.strKind prog w).is name (.str name s.toks)=true:=by simp [PySem.strKind,Value.isStrOf]
  refine ⟨_,es.push ⟨(PySem.strKind prog w).hash name,.str name s.toks,v⟩,ep+1,get?_update_self _ ho (by simp only [Obj.putName_eq,Obj.putNameByArray,heq,hi]; rfl),?_,?_,hk.push hkey v,?_,?_⟩
  ·simp only [Obj.putName_eq,Obj.putNameByArray,heq,hi]; exact ⟨rfl,rfl,rfl⟩
  ·simp only [Obj.putName_eq,Obj.putNameByArray,heq,hi]; rfl
  ·rw [stored,if_neg hany];have:=hp.append hkey ((PySem.strKind prog w).hash name) v
   simpa using this
  ·rw [stored,if_neg hany,map_append,List.nodup_append];refine ⟨hn,by simp,?_⟩;intro a ha b hb;simp only [map_cons,List.map_nil,mem_singleton] at hb;subst hb;exact fun q=>hnot (q▸ha)
end
section
variable {c:Cfg}{T:Tab}{rec:Ev}{ρ:Rho}{st st' st1:St}{s:Shared}{A:Around}{E:Value→Shared→Prop}{ξ:Z3}{env:Env}
theorem ZaF (h:st.get i=some o):rd ro st i=some o:=by unfold rd;rw [h]
theorem rdD {G:Prop}{α:Type}{x:α}{o:Option MObj}{F:List (Str×MV)→Option α}(h:(match o with | some (.dict l)=>F l | _=>none)=some x)(g:∀ l,o=some (.dict l)→F l=some x→G):G:=by
 cases o with
 | none=>exact no h
 | some o=>cases o with
  | dict l=>exact g l rfl h
  | _=>exact no h
theorem Z44 (Y:∀ C r,T.cls C=some r→Z6V c C r)(C:c.Ok)(R:Rel c ρ st s)(h:ZhI T st o name v k=some z)(ho:o.Is ρ st.n vo)(hv:v.Is ρ st.n u) 
  (hq:∀ st1 s1,k st1=some z→st1.n=st.n→Rel c ρ st1 s1→Q () s1):wpAny (model c.prog c.w) A (setAttr vo name u) Q E s:=by
 cases o with
 | ref i =>
  (refine xA ho ?_;(try clear ho);intro hi o0;subst o0)
  refine rdI h fun C' d hr h=>bE h fun r hc h=>bT h fun hm h=>rdD h fun es hd h=>bT h fun hz h=>?_;have K:=Y _ _ hc;have hn:=K.attrs name hm;have hr':=ZaF (ro:=c.ro) hr;have hd':=ZaF (ro:=c.ro) hd;obtain ⟨od,kvs,ep,I,g1,g2,e4,e5⟩:=Z5G C R hr' (Xi hd');refine set_plain (R.kin C) I K.sa ?_;have X1:=(R.toks (s.toks+1)).kin C;have I1:InstAt ({ s with toks:=s.toks+1 }:Shared).heap _ (instObj C' (ρ.a d)) C' (some od):=I
  refine osa_open X1 I1 K.over (r:=none) (by unfold takerIn;rw [hn]; rfl) fun b=>?_;obtain ⟨cd,hcd,hdi⟩:=any_some K.dict;refine W0j (W0k (W0j (W0j (wpAny_loadPart I.at_ (W0j ((looks_clsIn X1 hcd).here ?_))))));rw [hdi];refine W0k (a:=some (ρ.a d)) (W0j (W0k (W0j ?_)));refine Z45 (s:={ s with toks:=s.toks+1 }) g2.dictOf fun h' hd'' sb=>?_
  have ha:=e4.put (k:=name) hv g2.nodup
  (refine xEEEAAAAA (id hd'') ?_;intro o' es' ep' ho' hc' hdt _ hp' _)
  have hz':es'.size≤sizeLine+1:=by
   have e1:=hp'.length;have e2:es'.toList.length=es'.size:=by simp
   have e3:=stored_length_le kvs name u;have e6:=e4.length;have:=W06 hz;unfold sizeLine
   repeat clear h
   omega
  refine W0j (wpAny_lookBehind ho' (by rw [hdt]; exact pastItsLine_dict hz') ?_);exact W0k (hq _ _ h rfl (Z1F R hd _ hd'' sb ha))
 | _=>exact no h
end
section
variable {c:Cfg}{T:Tab}{rec:Ev}{ρ:Rho}{st st' st1:St}{s:Shared}{A:Around}{E:Value→Shared→Prop}{ξ:Z3}{env:Env}
theorem ZaS (R:Rel c ρ st s)(C:c.Ok)(hb:True)(t e:Nat)(x:At c (ρ.ext st.n s.heap.objs.size e) (st.n+1) (s.heap.push ob) st.n o) :
  Ag ρ (ρ.ext st.n s.heap.objs.size e) st.n∧Rel c (ρ.ext st.n s.heap.objs.size e) (st.push o) { s with heap:=s.heap.push ob,toks:=t } :=
 ⟨ρ.ext_ag _ _ _,R.push C t hb x⟩
theorem Z24 (X:YT c T)(C:c.Ok)(R:Rel c ρ st s)(h:ZT T c.ro st x k=some z)(hx:x.Is ρ st.n vx) 
  (hq:∀ ρ' i st1 s1,k i st1=some z→i<st1.n→Ag ρ ρ' st.n→st.n≤st1.n→Rel c ρ' st1 s1→Q (.ref (ρ'.a i)) s1):wpAny (model c.prog c.w) A (pyIter vx) Q E s:=by
 have fin:∀ (o:MObj) (ob:Obj) (e:Nat),(st.alloc o k=some z)→(At c (ρ.ext st.n s.heap.objs.size e) (st.n+1) (s.heap.push ob) st.n o)→Q (.ref s.heap.objs.size) { s with heap:=s.heap.push ob }:=by
  intro o ob e ha hat;obtain ⟨hb,hk⟩:=St.alloc_eq ha
  (refine xA (ZaS R C hb s.toks e hat) ?_;intro g R')
  have:=hq _ st.n _ _ hk (W02 _) g (W03 _) R'
  rwa [Rho.ext_a] at this
 cases x with
 | str y =>
  (refine xE hx ?_;(try clear hx);intro t o0;subst o0)
  refine wpAny_pyIter_strU (fin _ _ 0 h ⟨t,?_⟩);rw [Rho.ext_a];exact ⟨_,get?_push_size _ rfl,rfl,rfl⟩
 | old a =>
  cases hx
  refine bE h fun xs hb h=>?_;obtain ⟨_,vs,ep,e1,e2⟩:=Z3o X C R hb;have ht:s.heap.IsTuple a vs:=⟨_,e1,rfl,_,rfl⟩;refine wpAny_pyIter_tuple ht (fin _ _ 0 h ⟨a,rfl,?_⟩);rw [Rho.ext_a];exact ⟨_,get?_push_size _ rfl,rfl,rfl⟩
 | ref i =>
  (refine xA hx ?_;(try clear hx);intro hi o1;subst o1)
  have ea:∀ e,(ρ.ext st.n s.heap.objs.size e).a i=ρ.a i:=fun e=>(ρ.ext_ag st.n s.heap.objs.size e i hi).1;have h:ZkD c.ro st i k (rd c.ro st i)=some z:=h
  cases hr:rd c.ro st i with
  | none=>rw [hr] at h;exact no h
  | some ob =>
  rw [hr] at h
  cases ob with
  | list xs =>
   obtain ⟨_,vs,ep,e1,e2⟩:=ZL R hr;have ht:s.heap.IsList (ρ.a i) vs:=⟨_,e1,rfl,_,rfl⟩;refine wpAny_pyIter_list ht (fin _ _ 0 h ⟨W08 hi,?_⟩);rw [Rho.ext_a,ea];exact ⟨_,get?_push_size _ rfl,rfl,rfl⟩
  | tup xs =>
   obtain ⟨_,vs,ep,e1,e2⟩:=ZL R hr;have ht:s.heap.IsTuple (ρ.a i) vs:=⟨_,e1,rfl,_,rfl⟩;refine wpAny_pyIter_tuple ht (fin _ _ 0 h ⟨ρ.a i,⟨W08 hi,by rw [ea]⟩,?_⟩);rw [Rho.ext_a];exact ⟨_,get?_push_size _ rfl,rfl,rfl⟩
  | rng a b d =>
   obtain ⟨_,t,u,v,e1⟩:=ZL R hr;refine bTT h fun h1 h2 h=>?_
   ·have h2:=of_decide_eq_true h2;refine wpAny_pyIter_range e1 h1 (fin _ _ 0 h ?_);show IsRangeIter _ _ _ _ _;rw [Rho.ext_a,Int.toNat_of_nonneg h2];exact get?_push_size _ rfl
  | itEnum it j =>
   obtain ⟨_,hit,old,e1⟩:=ZL R hr;exact wpAny_pyIter_enum e1 (hq ρ i st s h hi (Ag.refl _ _) (W04 _) R)
  | dict es =>
   refine rdD h fun es' hg h=>?_
   (refine xAA (R.at_ _ _ hg) ?_;intro _ o2 hu;obtain ⟨kvs,ep,h1,h2⟩:=o2)
   have hs:(ρ.a i==sysModules)=false:=by
    have:ρ.a i≠sysModules:=fun q=>hu (q▸C.sys)
    simpa using this
   refine wpAny_pyIter_dict hs h1 ?_;obtain ⟨hb,hk⟩:=St.alloc_eq h
   (refine xA (ZaS (o:=.itDict i 0 es'.length) (ob:={ cls:=.type "dict_keyiterator",data:=.fields #[.ref (ρ.a i),.int 0 0,.int kvs.length 0,.int ep 0] }) R C hb s.toks ep ⟨W08 hi,by
    rw [Rho.ext_a,Rho.ext_o,ea,← h2.length];exact ⟨_,get?_push_size _ rfl,rfl,rfl⟩⟩) ?_;intro g R')
   have hg':(st.push (.itDict i 0 es'.length)).get i=some (.dict es'):=by
    rw [St.get_push,if_neg (ne_of_lt hi)]; exact hg
   have R'':=R'.upd (h':=s.heap.push { cls:=.type "dict_keyiterator",data:=.fields #[.ref (ρ.a i),.int 0 0,.int kvs.length 0,.int ep 0] }) s.toks hg' (o:=.fdict es' st.n) (fun u0 u0 u0 e=>e) (W04 _)
    ⟨W02 _,kvs,by
     rw [Rho.ext_o,ea];exact Heap.DictAt.push h1 _,h2.mono g (W03 _)⟩
   have:=hq _ st.n _ _ hk (W02 _) g (W03 _) R''
   rwa [Rho.ext_a] at this
  | _=>exact no h
 | _=>exact no h
end
section
variable {c:Cfg}{T:Tab}{rec:Ev}{ρ:Rho}{st st' st1:St}{s:Shared}{A:Around}{E:Value→Shared→Prop}{ξ:Z3}{env:Env}
noncomputable def Zj2 (ρ:Rho)(n:Nat):Option MV→Option Value→Prop
 | none,v=>v=none
 | some x,v=>∃ u,v=some u∧x.Is ρ n u
theorem Z4c (X:YT c T)(C:c.Ok)(R:Rel c ρ st s)(h:YE T c.ro st x=some xs)(hx:x.Is ρ st.n (.ref a)) :
  ∃ vs ep,s.heap.get? a=some { cls:=.type "tuple",data:=.seq vs ep }∧Are ρ st.n xs vs.toList:=by
 cases x with
 | ref i =>
  obtain ⟨_,e⟩:=hx
  cases e
  refine Z8i h fun ys hr h=>injS h fun e=>?_;obtain ⟨_,vs,ep,e1,e2⟩:=ZL R hr;exact ⟨vs,ep,e1,e▸e2⟩
 | old a =>
  cases hx
  exact (Z3o X C R h).2
 | _=>exact no h
theorem Zu.get {n:Nat}:∀ {es:List (Str×MV)}{kvs:List (Str×Value)},Zu ρ n es kvs→∀ {i:Nat},match es[i]? with
  | some (k,x)=>∃ v,kvs[i]?=some (k,v)∧x.Is ρ n v
  | none=>kvs[i]?=none
 | [],[],_,i=>by simp
 | (j,y)::es,(j',u)::kvs,h,0=>by (refine xAA h ?_;(try clear h);intro o0 h2 _;subst o0);exact ⟨u,by simp,h2⟩
 | (j,y)::es,(j',u)::kvs,h,i+1=>by
  have:=Zu.get h.2.2 (i:=i)
  simpa using this
 | [],_::_,h,_=>h.elim
 | _::_,[],h,_=>h.elim
theorem Qe (R:Rel c ρ st s)(hi:st.get i=some o₀)(t:Nat)(sb:SameBut (ρ.a i) s.heap h')(x:At c ρ st.n h' i o)(hk:fy o₀=false→fy o=false∧(ZE o₀=true→ZE o=true):=by intro h;first | exact ⟨rfl,fun u0=>rfl⟩ | exact ⟨rfl,fun q=>absurd q (by decide)⟩ | exact ⟨rfl,fun q=>by cases q⟩ | cases h):Rel c ρ (st.put i o) { s with heap:=h',toks:=t } :=
 R.upd (h':=h') t hi (fun b ob hb he=>sb.extBut b ob hb he) (W0b sb.1.symm) x hk
theorem Rel.two (R:Rel c ρ st s)(C:c.Ok)(hi:st.get i=some oi)(hj:st.get j=some oj)(hij:i≠j)(t:Nat)(hb:True)(fi:fy oi=true)(fj:fy oj=true)
  (k:∀ b o,b≠ρ.a i→b≠ρ.a j→s.heap.get? b=some o→h'.get? b=some o)
  (x1:At c (ρ.ext st.n s.heap.objs.size 0) (st.n+1) h' i o1) (x2:At c ρ st.n h' j o2) (x3:At c (ρ.ext st.n s.heap.objs.size 0) (st.n+1) h' st.n o3) :
  Rel c (ρ.ext st.n s.heap.objs.size 0) (((st.push o3).put j o2).put i o1) { s with heap:=h',toks:=t }:=by
 have g:=ρ.ext_ag st.n s.heap.objs.size 0;refine xAA (R.at_ i _ hi) fun hin ai u0=>xAA (R.at_ j _ hj) fun hjn aj u0=>xE ai.some fun obi ei=>xE aj.some fun obj ej=>xE x1.some fun ob1 e1=>xE x2.some fun ob2 e2=>xE x3.some fun ob3 e3=>?_;have gi:=(g i hin).1;have gj:=(g j hjn).1;have nij:ρ.a i≠ρ.a j:=fun q=>hij (R.inj _ _ _ _ hi hj q);have li:=W0a (lt_size ei)
 have lj:=W0a (lt_size ej);rw [gi] at e1;rw [Rho.ext_a] at e3;have iB:(h'.update (ρ.a i) fun u0=>obi).get? (ρ.a i)=some obi:=get?_update_self _ e1 (Heap.get?_some_iff.mp ei).2;have oB:∀ b,b≠ρ.a i→(h'.update (ρ.a i) fun u0=>obi).get? b=h'.get? b:=fun b q=>Heap.get?_update_ne _ _ _ _ q;have jA:((h'.update (ρ.a i) fun u0=>obi).update (ρ.a j) fun u0=>obj).get? (ρ.a j)=some obj:=get?_update_self _ ((oB _ nij.symm).trans e2) (Heap.get?_some_iff.mp ej).2
 have oA:∀ b,b≠ρ.a j→((h'.update (ρ.a i) fun u0=>obi).update (ρ.a j) fun u0=>obj).get? b=(h'.update (ρ.a i) fun u0=>obi).get? b:=fun b q=>Heap.get?_update_ne _ _ _ _ q;have zB:(h'.update (ρ.a i) fun u0=>obi).objs.size=h'.objs.size:=Heap.size_update ..;have zA:((h'.update (ρ.a i) fun u0=>obi).update (ρ.a j) fun u0=>obj).objs.size=h'.objs.size:=(Heap.size_update ..).trans zB
 generalize h'.update (ρ.a i) (fun u0=>obi)=hB at iB oB jA oA zB zA
 generalize hB.update (ρ.a j) (fun u0=>obj)=hA at jA oA zA
 have R1:=R.new C (h':=hA) t hb (fun b ob e=>by
  by_cases q:b=ρ.a j
  ·rw [q,jA,← ej,← q]; exact e
  ·rw [oA b q];by_cases q':b=ρ.a i
   ·rw [q',iB,← ei,← q']; exact e
   ·rw [oB b q']; exact k b ob q' q e) (W04 _) (Nat.lt_of_lt_of_eq (lt_size e3) zA.symm) (x3.heap (by rw [Rho.ext_a,oA _ lj,oB _ li]))
 have ne:∀ {l:Nat} {o},l<st.n→(st.push o).get l=st.get l:=fun q=>(St.get_push _ _).trans (if_neg (W05 q));have R2:=R1.upd (h':=hB) t ((ne hjn).trans hj) (fun b ob q e=>(oA b (gj▸q)).symm.trans e) (W0b (zA.trans zB.symm)) ((x2.mono g (W03 _) hjn).heap (by rw [gj]; exact oB _ nij.symm)) (fun q=>absurd (fj.symm.trans q) (nofun));exact R2.upd (h':=h') t (((St.get_put _ _).trans (if_neg hij)).trans ((ne hin).trans hi)) (fun b ob q e=>(oB b (gi▸q)).symm.trans e) (W0b zB) x1 (fun q=>absurd (fi.symm.trans q) (nofun))
theorem ZfO {G:Prop}{α:Type}{x:α}{o:Option MObj}{F:Nat→Nat→Option α}(h:(match o with | some (.itList l j)=>F l j | _=>none)=some x)(g:∀ l j,o=some (.itList l j)→F l j=some x→G):G:=by
 cases o with
 | none=>exact no h
 | some o=>cases o with
  | itList l j=>exact g l j rfl h
  | _=>exact no h
theorem Zg1 {G:Prop}{α:Type}{x:α}{o:Option MObj}{F:List (Str×MV)→Nat→Option α}(h:(match o with | some (.fdict l j)=>F l j | _=>none)=some x)(g:∀ l j,o=some (.fdict l j)→F l j=some x→G):G:=by
 cases o with
 | none=>exact no h
 | some o=>induction o using MObj.casesOn with
  | fdict l j=>exact g l j rfl h
  | _=>exact no h
theorem ZfY {G:Prop}{α:Type}{x:α}{o:Option MObj}{F:List MV→Option α}(h:(match o,b with | some (.list l),true=>F l | _,_=>none)=some x)(g:∀ l,o=some (.list l)→b=true→F l=some x→G):G:=by
 cases o with
 | none=>exact no h
 | some o=>cases o with
  | list l=>cases b with
   | true=>exact g l rfl rfl h
   | false=>exact no h
  | _=>exact no h
theorem ocV {G:Prop}{α:Type}{x:α}{f:MV→Option α}{y:Option α}(h:(match o with | some v=>f v | none=>y)=some x)(g:∀ v,o=some v→f v=some x→G)(g':o=none→y=some x→G):G:=by
 cases o with
 | none=>exact g' rfl h
 | some v=>exact g v rfl h
theorem ocC {G:Prop}{α:Type}{x:α}{f:Nat→Option α}{y:Option α}(h:(match o with | some v=>f v | none=>y)=some x)(g:∀ v,o=some v→f v=some x→G)(g':o=none→y=some x→G):G:=by
 cases o with
 | none=>exact g' rfl h
 | some v=>exact g v rfl h
def Zl4 (T:Tab)(ro:Tr MObj)(st:St)(it:Nat)(o:Option MObj):Option (Option MV×St):=match o with
 | some (.itList l k)=>(match rd ro st l with
  | some (.list xs)=>(match xs[k]? with | some x=>some (some x,st.put it (.itList l (k+1))) | none=>some (none,st.del it))
  | _=>none)
 | some (.itTup x k)=>(match YE T ro st x with
  | some xs=>(match xs[k]? with | some y=>some (some y,st.put it (.itTup x (k+1))) | none=>some (none,st.del it))
  | none=>none)
 | some (.itRange a (m+1) c)=>some (some (.int a),st.put it (.itRange (a+c) m c))
 | some (.itRange _ 0 _)=>some (none,st.del it)
 | some (.itStr x k)=>(match x.cps[k]? with | some c=>some (some (.str ⟨#[c]⟩),st.put it (.itStr x (k+1))) | none=>some (none,st.del it))
 | some (.itEnum it' k)=>(match st.get it' with
  | some (.itList l j)=>(match rd ro st l,beq k j with
   | some (.list xs),true=>(match xs[j]? with
    | some x=>some (some (.ref st.n),((st.push (.tup [.int k,x])).put it' (.itList l (j+1))).put it (.itEnumO it' (k+1) st.n))
    | none=>some (none,(st.del it')))
   | _,_=>none)
  | _=>none)
 | some (.itDict d k m)=>(match rd ro st d with
  | some (.fdict es j)=>(match beq j it&&beq m es.length with
   | true=>(match es[k]? with | some (x,_)=>some (some (.str x),st.put it (.itDict d (k+1) m)) | none=>some (none,st.del it))
   | false=>none)
  | _=>none)
 | _=>none
theorem Z6U (x:IsRangeIter h p (a+d) (((m+1:Nat):Int) - 1) d):IsRangeIter h p (a+d) m d:=(show ((m+1:Nat):Int) - 1=m by omega)▸x
theorem Z2k (X:YT c T)(C:c.Ok)(hr:Zg c A lev)(R:Rel c ρ st s)(h:Zy T c.ro st it=some (r,st')) :
  wpAny (model c.prog c.w) A (pyNext (.ref (ρ.a it))) (fun v s'=>Z7 c ρ st.n st' s' fun ρ'=>Zj2 ρ' st'.n r v) E s:=by
 have hh:=hr.hh;have done:∀ (o:MObj) (i:Nat) (h':Heap),st.get i=some o→fy o=true→Heap.ExtBut (ρ.a i) s.heap h'→Z7 c ρ st.n (st.del i) { s with heap:=h' } fun ρ'=>Zj2 ρ' (st.del i).n none none :=
  fun o i h' ho hf he=>⟨ρ,Ag.refl _ _,W04 _,R.drop (h':=h') s.toks ho (fun b ob hb e=>he b ob hb e) (.inl hf),rfl⟩
 have nx:∀ {vs:Array Value} {xs:List MV} {k:Nat},Are ρ st.n xs vs.toList→xs[k]?=none→vs[k]?=none:=fun ha hk=>by
  rw [Array.getElem?_eq_none_iff,Z1r ha];exact List.getElem?_eq_none_iff.mp hk
 have got:∀ {vs:Array Value} {k:Nat} {v:Value},vs.toList[k]?=some v→vs[k]?=some v:=fun h=>(Array.getElem?_toList).symm.trans h;have key:∀ {r0:Option MV} {st0:St},some (r0,st0)=some (r,st')→wpAny (model c.prog c.w) A (pyNext (.ref (ρ.a it))) (fun v s'=>Z7 c ρ st.n st0 s' fun ρ'=>Zj2 ρ' st0.n r0 v) E s→wpAny (model c.prog c.w) A (pyNext (.ref (ρ.a it))) (fun v s'=>Z7 c ρ st.n st' s' fun ρ'=>Zj2 ρ' st'.n r v) E s:=fun h p=>injP h fun q1 q2=>q1▸q2▸p
 have h:Zl4 T c.ro st it (st.get it)=some (r,st'):=h
 cases hg:st.get it with
 | none=>rw [hg] at h;exact no h
 | some o =>
  rw [hg] at h;obtain ⟨_,hz,_⟩:=R.at_ _ _ hg
  cases o with
  | itList l k =>
   obtain ⟨hl,hit⟩:=hz;refine QD h fun xs hx h=>?_;obtain ⟨_,vs,ep,e1,e2⟩:=ZL R hx;refine ocV (o:=xs[k]?) h (fun x hk h=>?_) fun hk h=>?_
   ·obtain ⟨v,hv,hxv⟩:=e2.get hk;exact key h (wpAny_pyNext_list_item hit ⟨_,e1,rfl,_,rfl⟩ (got hv) fun h' i' sb=>⟨ρ,Ag.refl _ _,W04 _,Qe R hg s.toks sb ⟨hl,i'⟩,v,rfl,hxv⟩)
   ·exact key h (wpAny_pyNext_list_end hh hit ⟨_,e1,rfl,_,rfl⟩ (nx e2 hk) fun h' he=>done _ it h' hg rfl he)
  | itTup x k =>
   obtain ⟨t,ht,hit⟩:=hz;refine Zer h fun xs hx h=>?_;obtain ⟨vs,ep,e1,e2⟩:=Z4c X C R hx ht;refine ocV (o:=xs[k]?) h (fun y hk h=>?_) fun hk h=>?_
   ·obtain ⟨v,hv,hxv⟩:=e2.get hk;exact key h (wpAny_pyNext_tuple_item hit ⟨_,e1,rfl,_,rfl⟩ (got hv) fun h' i' sb=>⟨ρ,Ag.refl _ _,W04 _,Qe R hg s.toks sb ⟨t,ht,i'⟩,v,rfl,hxv⟩)
   ·exact key h (wpAny_pyNext_tuple_end hh hit ⟨_,e1,rfl,_,rfl⟩ (nx e2 hk) fun h' he=>done _ it h' hg rfl he)
  | itRange a m d=>induction m using Nat.casesOn with
   | succ m=>exact key h (wpAny_pyNext_range_item hz (by omega) fun h' i' sb=>⟨ρ,Ag.refl _ _,W04 _,Qe R hg _ sb (Z6U i'),_,rfl,_,rfl⟩)
   | zero=>exact key h (wpAny_pyNext_range_end hh hz (by decide) fun h' he=>done _ it h' hg rfl he)
  | itStr x k =>
   obtain ⟨t,hit⟩:=hz;by_cases ha:(x.cps.all (·<128))=true
   ·rw [if_pos ha] at hit;refine ocC (o:=x.cps[k]?) h (fun d hk h=>?_) fun hk h=>?_
    ·exact key h (wpAny_pyNext_ascii_item hit hk fun h' i' sb=>⟨ρ,Ag.refl _ _,W04 _,Qe R hg _ sb ⟨t,by rw [if_pos ha]; exact i'⟩,_,rfl,_,rfl⟩)
    ·exact key h (wpAny_pyNext_ascii_end hh hit hk fun h' he=>done _ it h' hg rfl he)
   ·rw [if_neg ha] at hit;refine ocC (o:=x.cps[k]?) h (fun d hk h=>?_) fun hk h=>?_
    ·exact key h (wpAny_pyNext_wide_item hit hk fun h' i' sb=>⟨ρ,Ag.refl _ _,W04 _,Qe R hg _ sb ⟨t,by rw [if_neg ha]; exact i'⟩,_,rfl,_,rfl⟩)
    ·exact key h (wpAny_pyNext_wide_end hh hit hk fun h' he=>done _ it h' hg rfl he)
  | itEnum it' k =>
   (refine xAE hz ?_;(try clear hz);intro hi' old he)
   refine ZfO (o:=st.get it') h fun l j hg' h=>?_
   (refine xAA (R.at_ _ _ hg') ?_;intro _ o0 _;obtain ⟨hl,hit⟩:=o0)
   refine ZfY (o:=rd c.ro st l) h fun xs hx hkj h=>?_;obtain rfl:=W09 hkj;obtain ⟨_,vs,ep,e1,e2⟩:=ZL R hx;have hne:it≠it':=fun q=>nomatch hg.symm.trans ((congrArg st.get q).trans hg');refine ocV (o:=xs[k]?) h (fun x hk h=>?_) fun hk h=>?_
   ·obtain ⟨v,hv,hxv⟩:=e2.get hk;refine key h (wpAny_pyNext_enum_item he hit ⟨_,e1,rfl,_,rfl⟩ (got hv) (fun q=>hne (R.inj _ _ _ _ hg hg' q)) fun h' o1 o2 o3 o4 o5=>?_);have g:=ρ.ext_ag st.n s.heap.objs.size 0;refine ⟨_,g,W03 _,R.two (h':=h') C hg hg' hne _ trivial rfl rfl o5 ⟨W08 hi',W02 _,v,by rw [Rho.ext_a,(g _ (R.at_ _ _ hg).1).1,(g _ hi').1]; exact o1⟩ ⟨hl,o2⟩ ⟨#[.int k s.toks,v],0,?_,⟨_,rfl⟩,hxv.mono g (W03 _),trivial⟩,_,rfl,W02 _,by rw [Rho.ext_a]⟩
    rw [Rho.ext_a]; exact o3
   ·exact key h (wpAny_pyNext_enum_end hh he hit ⟨_,e1,rfl,_,rfl⟩ (nx e2 hk) fun h' he'=>done _ it' h' hg' rfl he')
  | itDict d k m =>
   obtain ⟨hd,hit⟩:=hz;refine Zg1 (o:=rd c.ro st d) h fun es j hx h=>bT h fun q h=>?_;obtain ⟨_,hj,kvs,e1,e2⟩:=ZL R hx;have q:=W0h q;obtain rfl:=W09 q.1;obtain rfl:=W09 q.2;have hget:=e2.get (i:=k)
   cases hk:es[k]? with
   | some p =>
    simp only [hk] at h hget;obtain ⟨v,hv,_⟩:=hget;exact key h (wpAny_pyNext_dict_item (e2.length▸hit) e1 hv fun key h' hkey i' sb=>⟨ρ,Ag.refl _ _,W04 _,Qe R hg s.toks sb ⟨hd,e2.length▸i'⟩,key,rfl,Value.isStrOf_shape hkey⟩)
   | none =>
    simp only [hk] at h hget;exact key h (wpAny_pyNext_dict_end hh (e2.length▸hit) e1 hget fun h' he=>done _ _ h' hg rfl he)
  | _=>exact no h
end
section
variable {c:Cfg}{T:Tab}{rec:Ev}{ρ:Rho}{st st' st1:St}{s:Shared}{A:Around}{E:Value→Shared→Prop}{ξ:Z3}{env:Env}
theorem Zfc {G:Prop}(h:Zmg it x st=some st')(g1:∀ i k j l,st.get it=some (.itEnumO i k j)→x = .ref l→beq l j=true→st.put it (.itEnum i k)=st'→G)(g2:∀ l k,st.get it=some (.itList l k)→st=st'→G):G:=by
 have h:Zm8 it x st (st.get it)=some st':=h
 cases hg:st.get it with
 | none=>rw [hg] at h;exact no h
 | some o =>
  rw [hg] at h
  induction o using MObj.casesOn with
  | itEnumO i k j=>cases x with
   | ref l=>exact bT h fun q h=>injS h fun h=>g1 i k j l hg rfl q h
   | _=>exact no h
  | itList l k=>exact injS h fun h=>g2 l k hg h
  | _=>exact no h
theorem Z67 (R:Rel c ρ st s)(h:YF t it x st=some st')(hv:x.Is ρ st.n v)(hq:∀ s1,st'.n=st.n→Rel c ρ st' s1→Q () s1) :
  wpAny (model c.prog c.w) A (letOwnedTupleGo t (.ref (ρ.a it)) v) Q E s:=by
 induction t using PySem.Expr.casesOn with
 | Tuple =>
  refine Zfc h ?_ ?_<;>clear h
  ·intro i k j l hg hx e h;subst hx
   cases W09 e
   subst h
   (refine xA hv ?_;(try clear hv);intro _ o0;subst o0)
   (refine xAA (R.at_ _ _ hg) ?_;intro _ o1 _;obtain ⟨hi,hj,y,he⟩:=o1)
   exact wpAny_letOwnedTupleGo_enum he fun h' e' sb=>hq _ rfl (Qe R hg _ sb ⟨hi,y,e'⟩)
  ·intro l k hg h;subst h
   (refine xAA (R.at_ _ _ hg) ?_;intro _ o2 _;obtain ⟨hi,he⟩:=o2)
   induction v using PySem.Value.casesOn with
   | ref a=>exact wpAny_letOwnedTupleGo_listiter he (hq _ rfl R)
   | _=>exact W0k (hq _ rfl R)
 | Name=>exact injS h fun e=>W0k (hq _ (e▸rfl) (e▸R))
 | _=>exact no h
theorem Z2x:∀ {l:List (Str×Bi)},Qw x l=some b→(x,b)∈l
 | [],h=>by cases h
 | (k,v)::r,h=>mB (b:=decide (k=x)) (X:=some v) (Y:=Qw x r) h (fun q h=>by
   cases h
   rw [← of_decide_eq_true q];exact W0d) fun u0 h=>W0e _ (Z2x h)
theorem Zbd (Y:∀ C r,T.cls C=some r→Z6V c C r)(C:c.Ok)(R:Rel c ρ st s)(h:Qx T c.ro st o name=some f)(ho:o.Is ρ st.n vo) 
  (hq:∀ v,f.Is ρ st.n v→Q (v,[vo]) s):wpAny (model c.prog c.w) A (getMethod vo name pl) Q E s:=by
 cases o with
 | str y =>
  (refine xE ho ?_;(try clear ho);intro t o0;subst o0)
  (refine xEA (map_eq_some_iff.mp h) ?_;intro b hb o1;subst o1)
  have hm:=Z2x hb;have nr:∀ a,Value.str y t = .ref a→∃ o,s.heap.get? a=some o∧o.dict=none:=fun a e=>nomatch e;simp only [Zj9,mem_cons,Prod.mk.injEq,not_mem_nil,or_false] at hm;rcases hm with ⟨rfl,rfl⟩ | ⟨rfl,rfl⟩ | ⟨rfl,rfl⟩ | ⟨rfl,rfl⟩ | ⟨rfl,rfl⟩ | ⟨rfl,rfl⟩
  ·exact getMethod_builtin (typeIs_str _ _ _) PySem.F.plainAttrs_str PySem.F.slot_str_strip PySem.F.type_str_strip nr (hq _ rfl)
  ·exact getMethod_builtin (typeIs_str _ _ _) PySem.F.plainAttrs_str PySem.F.slot_str_split PySem.F.type_str_split nr (hq _ rfl)
  ·exact getMethod_builtin (typeIs_str _ _ _) PySem.F.plainAttrs_str PySem.F.slot_str_lower PySem.F.type_str_lower nr (hq _ rfl)
  ·exact getMethod_builtin (typeIs_str _ _ _) PySem.F.plainAttrs_str PySem.F.slot_str_endswith PySem.F.type_str_endswith nr (hq _ rfl)
  ·exact getMethod_builtin (typeIs_str _ _ _) PySem.F.plainAttrs_str PySem.F.slot_str_join PySem.F.type_str_join nr (hq _ rfl)
  ·exact getMethod_builtin (typeIs_str _ _ _) PySem.F.plainAttrs_str PySem.F.slot_str_index PySem.F.type_str_index nr (hq _ rfl)
 | ref i =>
  have dic:∀ es b,Y2 c.ro st (.ref i)=some es→Qw name ZhA=some b→f = .bi b→wpAny (model c.prog c.w) A (getMethod vo name pl) Q E s:=by
   intro es b he hb hf;subst hf
   (refine xEEEAAAA (QF C R he ho) ?_;intro j kvs ep e1 o2 e3 e4 e5;subst o2)
   have hm:=Z2x hb;simp only [ZhA,mem_cons,Prod.mk.injEq,not_mem_nil,or_false] at hm;rcases hm with ⟨rfl,rfl⟩ | ⟨rfl,rfl⟩
   ·exact getMethod_builtin e3.dictOf.typeIs PySem.F.plainAttrs_dict PySem.F.slot_dict_get PySem.F.type_dict_get e3.dictOf.mapOf.noDict (hq _ rfl)
   ·exact getMethod_builtin e3.dictOf.typeIs PySem.F.plainAttrs_dict PySem.F.slot_dict_update PySem.F.type_dict_update e3.dictOf.mapOf.noDict (hq _ rfl)
  have h:ZjK T c.ro st name (rd c.ro st i)=some f:=h
  cases hr:rd c.ro st i with
  | none=>rw [hr] at h;exact no h
  | some ob =>
  rw [hr] at h
  cases ob with
  | list xs =>
   (refine xA ho ?_;(try clear ho);intro hi o3;subst o3)
   (refine xEA (map_eq_some_iff.mp h) ?_;intro b hb o4;subst o4)
   have hm:=Z2x hb;obtain ⟨_,vs,ep,e1,e2⟩:=ZL R hr;have ht:s.heap.IsList (ρ.a i) vs:=⟨_,e1,rfl,_,rfl⟩;simp only [ZiN,mem_cons,Prod.mk.injEq,not_mem_nil,or_false] at hm
   (refine xA hm ?_;(try clear hm);intro o5 o6;subst o5;subst o6)
   exact getMethod_builtin ht.typeIs PySem.F.plainAttrs_list PySem.F.slot_list_append PySem.F.type_list_append (fun a e=>by cases e;exact ⟨_,e1,rfl⟩) (hq _ rfl)
  | dict es =>
   obtain ⟨b,hb,hf⟩:=map_eq_some_iff.mp h;exact dic es b (Xi hr) hb hf.symm
  | fdict es j =>
   obtain ⟨b,hb,hf⟩:=map_eq_some_iff.mp h;exact dic es b (Z0F hr) hb hf.symm
  | inst C' d =>
   refine bE h fun r hc h=>bE h fun es he h=>?_
   cases hl:Z2 name es with
   | some=>rw [hl] at h;exact no h
   | none =>
   rw [hl] at h;refine bE h fun g hm h=>?_
   cases h
   (refine xA ho ?_;(try clear ho);intro hi o7;subst o7)
   obtain ⟨od,kvs,ep,I,_,_,e4,e5⟩:=Z5G C R hr he;have K:=Y _ _ hc;obtain ⟨m1,m2⟩:=K.meths _ _ hm;have z:=Z0V name e4;rw [hl] at z;exact method_fn (R.kin C) I K.ga K.gh m1 m2 (by show (lookIn name od).map (·.isSome)=some false;rw [e5,z]; rfl) (hq _ rfl)
  | _=>exact no h
 | _=>exact no h
end
structure Z5 (c:Cfg)(T:Tab):Prop where
 X:YT c T
 Y:∀ C r,T.cls C=some r→Z6V c C r
 C:c.Ok
section
variable {c:Cfg}{T:Tab}{rec:Ev}{ρ:Rho}{st st' st1 st2 st3:St}{s:Shared}{A:Around}{E:Value→Shared→Prop}{ξ:Z3}{env:Env}
theorem Z3q (op:CmpOp)(h:ZI r=false):behindInMarks op r=false:=by induction r using PySem.Expr.casesOn<;>first | rfl | cases h
theorem ZeU {α:Type}{c:Bool}{X Y:Sem α}{Q:α→Shared→Prop}(h:c=true)(p:wpAny M A X Q E s):wpAny M A (if c=true then X else Y) Q E s:=by subst h;exact p
theorem Z8t (hb:JZ o=true)(h:wpAny M A whole Q E s):wpAny M A (attributeBase o attr env whole) Q E s:=by
 induction o using PySem.Expr.casesOn with
 | Call f args kws pos=>induction f using PySem.Expr.casesOn with
  | Name id _=>cases args with
   | nil=>cases kws with
    | nil =>
     have hb:(!decide (id=("super":Str)))=true:=hb;have hid:(id != ("super":Str))=true:=(congrArg (fun b=>!b) Q1).trans hb;exact ZeU (congrArg (fun z=>z||_||_||_) hid) h
    | cons=>exact h
   | cons=>exact h
  | _=>exact h
 | _=>exact h
theorem Z0D (h:Zq e=false):starEach (e::r) env=(false,eval e env)::starEach r env:=by induction e using PySem.Expr.casesOn<;>first | rfl | cases h
theorem Z21 (h:(e::r).any Zq=false):Zq e=false∧r.any Zq=false:=by simpa [any_cons,Bool.or_eq_false_iff] using h
theorem Z2e:∀ {es:List Expr},es.any Zq=false→((backTo pos (starEach es env)).any (·.1))=false
 | [],_=>rfl
 | e::r,h=>by
  obtain ⟨h1,h2⟩:=Z21 h;rw [Z0D h1];show ((false||(backTo pos (starEach r env)).any (·.1)))=false;rw [Z2e h2]; rfl
theorem Z2Q (hs:es.any Zq=false)(h:wpAny M A (spliced (backTo pos (starEach es env))) (fun vs s'=>Q ⟨vs,[]⟩ s') E s) :
  wpAny M A (evalArgs f true (backTo pos (starEach es env)) []) Q E s:=by
 cases es with
 | nil =>
  unfold evalArgs;show wpAny M A (spliced [] >>= _) Q E s;refine W0j (wpAny_mono h (fun vs s1 h1=>?_) fun u0 u0 z=>z);refine W0j (W0k ?_);refine wpAny_holding ?_;show wpAny M A (evalAll [] >>= _) Q E s1;exact W0j (W0k (W0j (W0k (W0k h1))))
 | cons e r =>
  obtain ⟨h1,h2⟩:=Z21 hs;rw [Z0D h1] at h ⊢;exact Calls.evalArgs_plain h
def Kps (c:Cfg)(f:Value):Prop:=∀ h,c.K.In h→∃ k,(k=Keeper.frame∨k=Keeper.machine∨k=Keeper.boundFrame)∧Looks (model c.prog c.w) h (keeperOf f) k
theorem Z0I (hs:es.any Zq=false)(hk:Kps c f)
  (h:wpAny (model c.prog c.w) A (spliced (backTo pos (starEach es env))) (fun vs s₁=>c.K.In s₁.heap∧wpAny (model c.prog c.w) A (call f (first++vs)) Q E s₁) E s) :
  wpAny (model c.prog c.w) A (callWith pos f first (backTo pos (starEach es env)) []) Q E s :=
 callWith_of (P:=c.K.In) (by rw [Z2e hs]; rfl) (fun h X=>hk h X) (Z2Q hs h)
theorem Z5y (X:YT c T)(Y:∀ C r,T.cls C=some r→Z6V c C r)(h:YS T f=true)(hv:f.Is ρ n v):Kps c v:=by
 cases f with
 | bi b=>cases hv;induction b using Bi.casesOn<;>exact fun h u0=>⟨.machine,.inr (.inl rfl),Looks.of_pure rfl⟩
 | old a =>
  cases hv
  (first | delta YS at h | unfold YS at h)
  simp only [or_eq_true,Option.isSome_iff_exists] at h;rcases h with ⟨r,h⟩ | ⟨r,h⟩
  ·exact fun h' X'=>keeps_K (X.fn a r h).keep h' X'
  ·exact fun h' X'=>keeps_K (Y a r h).keep h' X'
 | _=>cases h
theorem Z5W:∀ {ts:List Expr},(assignEach ts env).length=ts.length
 | []=>rfl
 | t::ts=>by
  have:=Z5W (ts:=ts)
  induction t using PySem.Expr.casesOn<;>(show (assignEach ts env).length+1=ts.length+1;rw [this])
theorem Z57:∀ {ts:List Expr},ts.any Zq=false→(assignEach ts env).findIdx? (·.1)=none
 | [],_=>rfl
 | t::ts,h=>by
  obtain ⟨h1,h2⟩:=Z21 h;have he:assignEach (t::ts) env=(false,assign t env)::assignEach ts env:=by induction t using PySem.Expr.casesOn<;>first | rfl | cases h1
  rw [he,List.findIdx?_cons,Z57 h2];rfl
theorem Z8l (h:YE T c.ro st x=some xs)(hv:x.Is ρ st.n v):∃ a,v = .ref a:=by
 cases x with
 | ref=>exact ⟨_,hv.2⟩
 | old=>exact ⟨_,hv⟩
 | _=>exact no h
end
theorem Z4M (h:(kvs.map (·.1)).Nodup)(k:Str)(v:Value):((stored kvs k v).map (·.1)).Nodup:=by
 unfold stored
 split
 ·rw [keys_map_store]; exact h
 ·rename_i hany;rw [map_append,List.nodup_append];refine ⟨h,by simp,?_⟩;intro a ha b hb q;simp only [map_cons,List.map_nil,mem_singleton] at hb;subst hb;obtain ⟨kv,h1,h2⟩:=mem_map.mp ha;exact hany (List.any_eq_true.mpr ⟨kv,h1,decide_eq_true (h2.trans q)⟩)
theorem Zu.putAll:∀ {ps:List (Str×MV)}{more:List (Str×Value)}{es:List (Str×MV)}{kvs:List (Str×Value)},Zu ρ n ps more→Zu ρ n es kvs→(kvs.map (·.1)).Nodup →
  Zu ρ n (putAll ps es) (merged kvs more)∧((merged kvs more).map (·.1)).Nodup
 | [],[],es,kvs,_,h,hd=>⟨h,hd⟩
 | (k,x)::ps,(k',v)::more,es,kvs,hp,h,hd=>by
  (refine xAA hp ?_;(try clear hp);intro o0 h1 h2;subst o0)
  exact Zu.putAll (ps:=ps) (more:=more) (es:=Zh k x es) (kvs:=stored kvs k v) h2 (h.put h1 hd) (Z4M hd k v)
 | [],_::_,_,_,h,_,_=>h.elim
 | _::_,[],_,_,h,_,_=>h.elim
section
variable {prog:Program}{w:World}{A:Around}{E:Value→Shared→Prop}{s:Shared}
theorem Z6H (f:(Option (Sem Value)×Sem Value)→(Option Addr×List (Sem Value×Sem Value))→Sem (ForInStep (Option Addr×List (Sem Value×Sem Value))))
  (hf:∀ (p:Sem Value×Sem Value) (run:List (Sem Value×Sem Value)),run.length+1<17→f (some p.1,p.2) (none,run)=pure (.yield (none,run++[p])))
  (hl:∀ (p:Sem Value×Sem Value) (run:List (Sem Value×Sem Value)),run.length+1=17→f (some p.1,p.2) (none,run)=(do let d ← subDict (run++[p]); pure (.yield (some d,[])))) :
  ∀ (items run:List (Sem Value×Sem Value)),items≠[]→run.length+items.length=17→forIn (items.map fun p=>(some p.1,p.2)) ((none:Option Addr),run) f=(do let d ← subDict (run++items);pure (some d,[]))
 | [],_,h,_=>absurd rfl h
 | [p],run,_,h=>by
  rw [map_cons,forIn_cons,hl p run (by simpa using h)];simp
 | p::q::rest,run,_,h=>by
  rw [map_cons,forIn_cons,hf p run (by simp at h;omega),pure_bind];have:=Z6H f hf hl (q::rest) (run++[p]) (by simp) (by simp at h ⊢; omega)
  simpa using this
theorem Z8f (pairs:List (Sem Value×Sem Value))(hlen:pairs.length=17):dictDisplay (pairs.map fun p=>(some p.1,p.2))=(do let d ← subDict pairs;pure (.ref d)):=by
 unfold dictDisplay;dsimp only;rw [Z6H _ (fun p run h=>by
  have hne:((run++[(p.1,p.2)]).length==17)=false:=by simp;omega
  simp only [hne,false_eq_true,if_false]) (fun p run h=>by
  have hne:run.length=16:=by omega
  simp [hne]) pairs [] (by intro h;rw [h] at hlen;cases hlen) (by simpa using hlen)]
 simp
end
section
variable {c:Cfg}{T:Tab}{rec:Ev}{ρ:Rho}{st st' st1:St}{s:Shared}{A:Around}{E:Value→Shared→Prop}{ξ:Z3}{env:Env}
theorem Z54:∀ {l:List MV}{ps:List (Str×MV)}{vs:List (Value×Value)}{n:Nat},XY l=some ps→ZlI ρ n l vs→∃ kvs,Carries (PySem.strKind c.prog c.w) vs kvs∧Zu ρ n ps kvs
 | [],ps,[],n,h,_=>by cases h;exact ⟨[],trivial,trivial⟩
 | [],_,_::_,_,_,h=>h.elim
 | [a],_,_,_,h,_=>by induction a using MV.casesOn<;>exact no h
 | x::y::l,ps,vs,n,h,hp=>by
  cases vs with
  | nil=>exact hp.elim
  | cons p vs =>
   obtain ⟨u,v⟩:=p;obtain ⟨h1,h2,h3⟩:=hp
   cases x with
   | str k =>
    refine bE h fun l' hl h=>?_
    ·cases h
     obtain ⟨kvs,h4,h5⟩:=Z54 hl h3
     (refine xE h1 ?_;(try clear h1);intro t o0;subst o0)
     exact ⟨(k,v)::kvs,⟨QG k t,rfl,h4⟩,rfl,h2,h5⟩
   | _=>exact no h
theorem Z3k:∀ {ks:List (Option Expr)}{vs:List Expr},(∀ k∈ks,k.isSome=true)→ks.length=vs.length →
  (evalEachOpt ks env).zip ((evalEach vs env).map fun v=>do let x ← v;standAt pos;pure x)=(Xg ks vs env pos).map fun p=>(some p.1,p.2)
 | [],[],_,_=>rfl
 | some k::ks,v::vs,h,hl=>by
  have:=Z3k (pos:=pos) (ks:=ks) (vs:=vs) (fun k hk=>h k (W0e _ hk)) (by simpa using hl)
  show (some (eval k env),_)::_=_::_
  rw [← this];rfl
 | none::_,_,h,_=>by have:=h none W0d;cases this
 | [],_::_,_,hl=>by simp at hl
 | _::_,[],_,hl=>by simp at hl
theorem Z3l:∀ {ks:List (Option Expr)}{vs:List Expr}{pos:Pos},(∀ k∈ks,k.isSome=true)→ks.length=vs.length→(Xg ks vs env pos).length=ks.length
 | [],[],_,_,_=>rfl
 | some k::ks,v::vs,pos,h,hl=>by
  have:=Z3l (pos:=pos) (ks:=ks) (vs:=vs) (fun k hk=>h k (W0e _ hk)) (by simpa using hl)
  show (Xg ks vs env pos).length+1=ks.length+1
  rw [this]
 | none::_,_,_,h,_=>by have:=h none W0d;cases this
 | [],_::_,_,_,hl=>by simp at hl
 | _::_,[],_,_,hl=>by simp at hl
theorem Z4n (R:Rel c ρ st s)(C:c.Ok)(hb:True):Rel c (ρ.ext st.n s.heap.objs.size 0) (st.push (.dict [])) { s with heap:=s.heap.push { cls:=.type "dict",data:=.dict #[] } }:=by
 refine R.push C s.toks hb ⟨[],0,?_,trivial⟩;rw [Rho.ext_a];exact ⟨_,#[],get?_push_size _ rfl,⟨rfl,rfl,rfl⟩,rfl,fun u0 h=>by simp at h,Pairs.nil,nodup_nil⟩
theorem Zbx (C:c.Ok):Z0 c T (.ex (.Dict [] [] pos) ξ) st (.v (.ref st.n)) (st.push (.dict [])):=by
 intro A ρ env s E r e0 R;exact wpAny_Dict_empty ⟨_,ρ.ext_ag _ _ _,W03 _,Z4n R C trivial,W02 _,by rw [Rho.ext_a]⟩
theorem Z9i (h:Q0 ks vs=true):(∀ k∈ks,k.isSome=true)∧ks.length=vs.length∧ks.length≠0:=by
 (first | delta Q0 at h | unfold Q0 at h)
 simp only [and_eq_true,not_eq_true',all_eq_true] at h;exact ⟨h.1.1,W09 h.1.2,Nat.ne_of_beq_eq_false h.2⟩
theorem Zd8 (C:c.Ok)(hz:ks.length≤15)(hg:Q0 ks vs=true)(h1:Z0 c T (.prs ks vs ξ) (st.push (.dict [])) (.vs xs) st1)(hpp:XY xs=some pp)
  (hd:st1.get st.n=some (.dict [])):Z0 c T (.ex (.Dict ks vs pos) ξ) st (.v (.ref st.n)) (st1.put st.n (.dict (putAll pp []))):=by
 intro A ρ env s E r e0 R;obtain ⟨g1,g2,g3⟩:=Z9i hg;have hl:=Z3l (env:=env) (pos:=pos) g1 g2;refine wpAny_Dict_pairs (knd:=PySem.strKind c.prog c.w) (Z3k (env:=env) g1 g2) (by intro q;rw [q] at hl;exact g3 hl.symm) (by rw [hl]; exact hz) ?_;have g:=ρ.ext_ag st.n s.heap.objs.size 0;have R0:=Z4n R C trivial;refine wpAny_mono (h1 A _ env _ E pos r (e0.mono g (W03 _)) R0) (fun ps s1 z9=>xEAAA z9 fun ρ1 k1 n1 R1 hp=>?_) fun u0 u0 z=>z
 obtain ⟨kvs,c1,c2⟩:=Z54 (c:=c) hpp hp
 (refine xAA (R1.at_ _ _ hd) ?_;intro _ o0 _;obtain ⟨kv0,ep,d1,d2⟩:=o0)
 have hk0:kv0=[]:=by cases kv0 with | nil=>rfl | cons _ _=>exact d2.elim
 subst hk0;have ha:ρ1.a st.n=s.heap.objs.size:=by
  rw [(k1 st.n (lt_succ_self _)).1,Rho.ext_a]
 refine ⟨kvs,c1,ha▸d1.dictOf,fun h' hd' sb=>?_⟩;rw [← ha] at hd' sb;have:=(Zu.putAll (ps:=pp) (more:=kvs) (es:=[]) (kvs:=[]) c2 trivial nodup_nil).1;refine ⟨ρ1,g.trans k1 (W03 _),Nat.le_of_succ_le n1,Z1F R1 hd _ hd' sb this,Nat.lt_of_succ_le n1,by rw [ha]⟩
theorem Z7K (h:XZ k=some v)(hq:∀ u t,v.Is ρ st.n u→Q u { s with toks:=t }):wpAny (model c.prog c.w) A (constValue env k) Q E s:=by
 induction k using PySem.Const.casesOn<;>cases h
 ·exact W0k (hq _ s.toks rfl)
 ·exact W0k (hq _ s.toks rfl)
 ·exact wpAny_mkInt (hq _ _ ⟨_,rfl⟩)
 ·exact wpAny_mkText (hq _ _ ⟨_,rfl⟩)
theorem ZaI {G:Prop}(h:ZlQ e=some k)(g:∀ a b,e = .Constant k a b→G):G:=by
 induction e using PySem.Expr.casesOn with
 | Constant k' a b=>exact injS h fun q=>g a b (q▸rfl)
 | _=>exact no h
theorem Zdp {G:Prop}(h:Zmk e=some k)(g:e = .str k→G):G:=by
 induction e using PySem.Const.casesOn with
 | str k'=>exact injS h fun q=>g (q▸rfl)
 | _=>exact no h
theorem Z7k (C:c.Ok)(f:(Sem Value×Sem Value)→PUnit→Sem (ForInStep PUnit))
  (hf:∀ k v u,f (k,v) u=(do let kv ← k;let vv ← holding [kv] v;holding [kv,vv] (dictSet d kv vv);pure (.yield PUnit.unit))) :
  ∀ {ks:List (Option Expr)} {vs:List Expr} {ps:List (Str×MV)} (_:Zh6 ks vs=some ps) (kvs:List (Str×Value)) (es:List (Str×MV)) (s:Shared) (Q:PUnit→Shared→Prop),s.heap.DictOf (PySem.strKind c.prog c.w) d kvs→Zu ρ n es kvs→kvs.length+ks.length≤100 →
   (∀ h' t kvs',h'.DictOf (PySem.strKind c.prog c.w) d kvs'→Zu ρ n (putAll ps es) kvs'→SameBut d s.heap h'→Q ⟨⟩ { s with heap:=h',toks:=t }) →
   wpAny (model c.prog c.w) A (forIn (Xg ks vs env pos) PUnit.unit f) Q E s:=by
 intro ks
 induction ks with
 | nil =>
  intro vs ps h kvs es s Q hd ha hz hq
  cases vs with
  | nil=>cases h;exact W0k (hq s.heap s.toks kvs hd ha (.refl ..))
  | cons _ _=>exact no h
 | cons k ks ih =>
  intro vs ps h kvs es s Q hd ha hz hq
  cases vs with
  | nil=>exact no h
  | cons v0 vs' =>
   refine bE h fun k0 hk0 h1=>bE h1 fun c0 hc0 h2=>bE h2 fun kk hkk h3=>bE h3 fun v hv0 h4=>bE h4 fun x hx h5=>bE h5 fun r hr h6=>?_;clear h h1 h2 h3 h4 h5;subst hk0;refine ZaI hc0 fun a1 a2 e0=>ZaI hv0 fun a3 a4 e1=>Zdp hkk fun e2=>?_;subst e0 e1 e2
   ·cases h6
    show wpAny _ _ (forIn (_::Xg ks vs' env pos) _ _) _ _ _
    rw [forIn_cons,hf];refine W0j (W0j ?_);rw [eval_Constant];refine wpAny_mkText (W0j (wpAny_holding (W0j ?_)));rw [eval_Constant];refine Z7K (ρ:=ρ) (st:=⟨n,.nil⟩) hx fun u t hu=>W0j (W0l (W0k ?_));refine W0j (wpAny_holding (wpAny_dictSet_pairs (knd:=PySem.strKind c.prog c.w) (QG kk _) hd (fun h' hd' sb=>?_) ?_))
    ·refine W0k (ih hr _ (Zh kk x es) _ _ hd' (ha.put hu (by obtain ⟨_,_,_,_,_,_,_,_,hn⟩:=hd;exact hn)) ?_ fun h'' t' kvs' z1 z2 z3=>hq h'' t' kvs' z1 z2 (sb.trans z3));have:=stored_length_le kvs kk u;simp only [length_cons] at hz;omega
    ·unfold sizeLine;omega
theorem Zbn (C:c.Ok)(hz:ks.length=17)(hg:Q0 ks vs=true)(hc:Zh6 ks vs=some ps):Z0 c T (.ex (.Dict ks vs pos) ξ) st (.v (.ref st.n)) (st.push (.dict (putAll ps []))):=by
 intro A ρ env s E r e0 R;obtain ⟨g1,g2,g3⟩:=Z9i hg;have hl:=Z3l (env:=env) (pos:=pos) g1 g2;rw [arm_eval_Dict,Z3k g1 g2,Z8f _ (hl.trans hz)];refine W0j (W0l (W0j ?_));unfold subDict;refine W0j (wpAny_alloc (W0j (wpAny_holding ?_)));rw [if_neg (by rw [hl,hz]; decide)];refine W0j (wpAny_rule ?_);have hd0:(s.heap.push { cls:=.type "dict",data:=.dict #[] }).DictOf (PySem.strKind c.prog c.w) s.heap.objs.size [] :=
  ⟨_,#[],0,get?_push_size _ rfl,⟨rfl,rfl,rfl⟩,rfl,fun u0 h=>by simp at h,Pairs.nil,nodup_nil⟩
 refine W0j ?_;refine Z7k (ρ:=ρ) (n:=st.n) C _ (by intros;rfl) hc [] [] { s with heap:=s.heap.push { cls:=.type "dict",data:=.dict #[] } } _ hd0 trivial (by rw [hz]; decide) fun h' t kvs' z1 z2 z3=>?_;refine W0k (W0k (W0k ?_));have g:=ρ.ext_ag st.n s.heap.objs.size 0;obtain ⟨ep,z1⟩:=z1.dictAt;refine ⟨_,g,W03 _,R.new (h':=h') C t trivial (fun b ob e=>z3.extBut b ob (W05 (lt_size e)) (get?_push_of_some _ e)) (W04 _) (by have e:=z3.1;rw [size_push] at e;omega) ⟨kvs',ep,by rw [Rho.ext_a]; exact z1,z2.mono g (W03 _)⟩,W02 _,by rw [Rho.ext_a]⟩
end
section
variable {c:Cfg}{T:Tab}{rec:Ev}{ρ:Rho}{st st' st1:St}{s:Shared}{A:Around}{E:Value→Shared→Prop}{ξ:Z3}{env:Env}
theorem Zr (h:Z0 c T (.ex e ξ) st (.v a) st1)(r:Zg c A ξ.lev)(e0:Zc ρ st.n ξ env)(R:Rel c ρ st s)
  (k:∀ v s1 ρ1,Ag ρ ρ1 st.n→st.n≤st1.n→Rel c ρ1 st1 s1→a.Is ρ1 st1.n v→Zc ρ1 st1.n ξ env→Q v s1):wpAny (model c.prog c.w) A (eval e env) Q E s :=
 wpAny_mono (h A ρ env s E r e0 R) (fun v s1 z9=>xEAAA z9 fun ρ1 g hn R1 hv=>k v s1 ρ1 g hn R1 hv (e0.mono g hn)) fun u0 u0 z=>z
theorem Z3C (R:Rel c ρ st s)(h:QB (st.get it)=true)(hq:Q (.ref (ρ.a it)) s):wpAny (model c.prog c.w) A (pyIter (.ref (ρ.a it))) Q E s:=by
 cases hg:st.get it with
 | none=>rw [hg] at h;cases h
 | some o =>
  rw [hg] at h;obtain ⟨_,z,_⟩:=R.at_ _ _ hg
  cases o with
  | itList l k=>exact wpAny_pyIter_listiter z.2 hq
  | itTup x k=>obtain ⟨t,_,z⟩:=z;exact wpAny_pyIter_tupleiter z hq
  | itRange a n d=>exact wpAny_pyIter_rangeiter z hq
  | itStr x k =>
   obtain ⟨t,z⟩:=z;by_cases ha:(x.cps.all (·<128))=true
   ·rw [if_pos ha] at z;exact wpAny_pyIter_striter_ascii z hq
   ·rw [if_neg ha] at z;exact wpAny_pyIter_striter_wide z hq
  | itDict d k m=>exact wpAny_pyIter_keyiter z.2 hq
  | itEnum i k=>obtain ⟨_,old,z⟩:=z;exact wpAny_pyIter_enum z hq
  | _=>cases h
theorem Z82 (h:env.cells.lookup x=some a):cellOf env x=pure a:=by unfold cellOf;rw [h]
theorem Z29 (e0:Zc ρ st.n ξ env)(f:Str×NameKind→List (Str×Addr)→Sem (ForInStep (List (Str×Addr))))
  (hf:∀ n k cs,f (n,k) cs=if (k==NameKind.free)=true then (do let a ← cellOf env n;pure (.yield ((n,a)::cs))) else pure (.yield cs)) :
  ∀ {names:List (Str×NameKind)} {cs:List (Str×Nat)} (_:Yc ξ names=some cs) (acc:List (Str×Addr)),forIn names acc f=pure (cs.map (fun p=>(p.1,ρ.a p.2))++acc)
 | [],cs,h,acc=>by cases h;rfl
 | (x,k)::r,cs,h,acc=>by
  rw [forIn_cons,hf]
  induction k using PySem.NameKind.casesOn with
  | free =>
   refine bE h fun j hj h=>bE h fun l hl h=>?_
   ·cases h
    obtain ⟨_,hc⟩:=e0.cells x j hj;have hb:(NameKind.free==NameKind.free)=true:=rfl;rw [if_pos hb,Z82 hc];simp only [pure_bind];rw [Z29 e0 f hf hl];simp
  | cell=>cases h
  | _ =>
   rw [if_neg (by decide),pure_bind];have h:Yc ξ r=some cs:=h;exact Z29 e0 f hf h acc
theorem Z1n (e0:Zc ρ st.n ξ env)(h:Yc ξ sc.names=some cs):closureFor sc env=pure (cs.map fun p=>(p.1,ρ.a p.2)):=by
 unfold closureFor;have:=Z29 (f:=fun (x:Str×NameKind) r=>match x with | (name,kind)=>if (kind==NameKind.free)=true then (do let a ← cellOf env name;pure (.yield ((name,a)::r))) else pure (.yield r)) e0 (fun n k cs=>rfl) h [];simp only [append_nil] at this
 first
  | exact this
  | (rw [bind_pure]; exact this)
  | (simpa using this)
theorem Z0s (e0:Zc ρ st.n ξ env):∀ {names:List (Str×NameKind)}{cs:List (Str×Nat)},Yc ξ names=some cs→∀ p∈cs,p.2<st.n
 | [],cs,h,p,hp=>by cases h;cases hp
 | (x,k)::r,cs,h,p,hp=>by
  induction k using PySem.NameKind.casesOn with
  | free =>
   refine bE h fun j hj h=>bE h fun l hl h=>?_
   ·cases h
    rcases mem_append.mp hp with hp | hp
    ·exact Z0s e0 hl p hp
    ·simp only [mem_singleton] at hp;subst hp;exact (e0.cells x j hj).1
  | cell=>cases h
  | _=>exact Z0s (names:=r) e0 h p hp
theorem Z0m:∀ {names:List (Str×NameKind)}{cs:List (Str×Nat)},Yc ξ names=some cs→∀ x∈names,x.2 ≠ .cell
 | [],_,_,x,hx,_=>by cases hx
 | (y,k)::r,cs,h,x,hx,hc=>by
  induction k using PySem.NameKind.casesOn with
  | cell=>cases h
  | free =>
   refine bE h fun j hj h=>bE h fun l hl h=>?_;rcases W0i hx with rfl | hx
   ·cases hc
   ·exact Z0m hl x hx hc
  | _ =>
   rcases W0i hx with rfl | hx
   ·cases hc
   ·exact Z0m (names:=r) h x hx hc
theorem Xk:∀ {cs:List (Str×Nat)},Y6 x cs=some j→(x,j)∈cs
 | [],h=>by cases h
 | (k,v)::r,h=>by
  refine bC h (fun q h=>?_) fun u0 h=>W0e _ (Xk h)
  cases h;rw [of_decide_eq_true q]; exact W0d
theorem Z0U {g:Nat→Nat}:∀ {cs:List (Str×Nat)},Y6 x cs=some j→(cs.map fun p=>(p.1,g p.2)).lookup x=some (g j)
 | [],h=>by cases h
 | (k,v)::r,h=>by
  rw [map_cons,lookup_cons,Q1];refine bC h (fun q h=>?_) fun q h=>?_
  ·cases h
   have q:=of_decide_eq_true q;subst q;simp
  ·have q:=of_decide_eq_false q;have q':¬ x=k:=fun e=>q e.symm;simp only [q',decide_false];exact Z0U h
theorem Z3P (hk:ξ.sc.kind = .function)(hs:env.scope=ξ.sc):relabel sc env={ sc with names:=YG ξ sc.names }:=by
 unfold relabel YG
 congr 1
 refine W0f fun p u0=>?_;obtain ⟨n,k⟩:=p;have h1:env.scope.kind = .function:=by rw [hs]; exact hk
 have h2:=Z0S hs n;have h3:(env.kindOf n==some .cell)=QA n .cell ξ.sc.names:=by
  rw [h2];unfold QA
  cases kindOf n ξ.sc.names with
  | none=>rfl
  | some j=>induction j using PySem.NameKind.casesOn<;>rfl
 dsimp only;rw [h1,h3]
 induction k using PySem.NameKind.casesOn<;>cases QA n .cell ξ.sc.names<;>rfl
theorem Z1d:∀ {names:List (Str×NameKind)},Ja names=true→∀ x∈names,x.2 = .local→names.lookup x.1=some .local
 | [],_,x,hx,_=>by cases hx
 | p::r,h,x,hx,hl=>by
  unfold Ja at h;simp only [and_eq_true,not_eq_true'] at h;rcases W0i hx with rfl | hx
  ·obtain ⟨n,k⟩:=x;dsimp only at hl;subst hl;simp [lookup_cons]
  ·have:=Z1d h.2 x hx hl
   obtain ⟨n,k⟩:=p;rw [lookup_cons];by_cases e:x.1=n
   ·rw [e,Z10] at this;have h1:=h.1;simp only at h1;rw [this] at h1
    cases h1
   ·have:(x.1==n)=false:=by simpa using e
    rw [this]
    assumption
theorem Z2J (h:ZI e=false)(x:Value):foldedSetIterable e env x=pure x:=by induction e using PySem.Expr.casesOn<;>first | rfl | cases h
def Zk2 (c:Cfg)(T:Tab)(elt t:Expr)(ifs:List Expr)(sc:Scope)(cs:List (Str×Nat))(ξ:Z3)(F:Nat→St→Prop)(it:Nat)(st:St):Prop :=
 QB (st.get it)=true∧∃ st4,Z0 c T (.comp elt t ifs it st.n ⟨{ sc with names:=YG ξ sc.names },st.n+1,cs,ξ.code,ξ.qual,ξ.lev⟩) ((st.push (.list [])).push (.frame [])) .u st4∧F st.n st4
theorem Z4L (X:YT c T)(C:c.Ok){K:Nat→St→Res} 
  (hf:(Zi sc.kind&&Zi ξ.sc.kind)=true) (hs:ZI iter=false) (hc:Yc ξ sc.names=some cs) (ha:Ja sc.names=true) (h1:Z0 c T (.ex iter ξ) st (.v x) st1) (h:ZT T c.ro st1 x K=some z)
  (hK:∀ it st2,K it st2=some z→Zk2 c T elt target ifs sc cs ξ F it st2)
  (r:Zg c A ξ.lev) (e0:Zc ρ st.n ξ env) (R:Rel c ρ st s) {RR:Value→Addr→Result→Shared→Prop}
  (hk:∀ ρ1 acc st1 s1 f,Ag ρ ρ1 st.n→¬ c.G (ρ1.a (acc+1))→acc+1<st1.n→st.n≤st1.n→Rel c ρ1 st1 s1→F acc st1→Zc ρ1 st1.n ξ env→RR (.ref (ρ1.a acc)) (ρ1.a (acc+1)) (.ok f) s1) :
  ∃ cl,closureFor sc env=pure cl∧sc.kind = .function∧(∀ x∈sc.names,x.2 = .local→sc.names.lookup x.1=some .local)∧(∀ x,foldedSetIterable iter env x=pure x) ∧
  wpAny (model c.prog c.w) A (eval iter env) (fun x s₁=>wpAny (model c.prog c.w) A (pyIter x) (fun it s₂=>wpAny (model c.prog c.w) A (newList []) (fun acc s₃ =>
   wpAny (model c.prog c.w) A (newFunctionEnv sc env.globals cl [] env.qual none .none (some env)) (fun cenv s₄ =>
    codeAny (model c.prog c.w) A (.compStart (.ListComp elt [⟨target,iter,ifs,0⟩] sc pos) 0 it acc { cenv with scope:=relabel sc env }) (RR acc cenv.locals) s₄) E s₃) E s₂) E s₁) E s:=by
 simp only [and_eq_true] at hf;have hkind:=Q2 hf.1;refine ⟨_,Z1n e0 hc,hkind,Z1d ha,Z2J hs,?_⟩;refine Zr h1 r e0 R fun vx s1 ρ1 g1 n1 R1 hx e1=>?_;refine Z24 X C R1 h hx fun ρ2 it st2 s2 h2 hit g2 n2 R2=>?_;obtain ⟨hiter,st4,h3,h2⟩:=hK _ _ h2;refine wpAny_newList ?_ (by unfold sizeLine;decide);have hng:¬ c.G (s2.heap.push { cls:=.type "list",data:=.seq #[] }).objs.size:=fun q=>by
  (refine xA (R2.big _ q) ?_;intro o0 _;obtain ⟨ob,e,_⟩:=o0)
  exact absurd (lt_size e) (by rw [size_push]; exact W0m (W03 _))
 have q3:=ρ2.ext_ag st2.n s2.heap.objs.size 0;have R3:Rel c (ρ2.ext st2.n s2.heap.objs.size 0) (st2.push (.list [])) { s2 with heap:=s2.heap.push { cls:=.type "list",data:=.seq #[] } }:=by
  refine R2.push C s2.toks trivial ⟨#[],0,?_,trivial⟩;rw [Rho.ext_a]; exact get?_push_size _ rfl
 have hcell:∀ x∈sc.names,x.2 ≠ .cell:=by
  intro x hx hcx;exact Z0m hc x hx hcx
 refine wpAny_newFunctionEnv (s:={ s2 with heap:=s2.heap.push { cls:=.type "list",data:=.seq #[] } }) hcell (fun u0 h=>nomatch h) (fun h' hn' sb=>?_) hkind;have R4:Rel c ((ρ2.ext st2.n s2.heap.objs.size 0).ext (st2.n+1) (s2.heap.push { cls:=.type "list",data:=.seq #[] }).objs.size 0) ((st2.push (.list [])).push (.frame [])) { s2 with heap:=h',toks:=s2.toks+0 }:=by
  have:=R3.new (h':=h') C (s2.toks+0) trivial (e:=0) (o:=.frame []) (fun b ob e=>sb.extBut b ob (W05 (lt_size e)) (get?_push_of_some _ e)) (W04 _) (by have e:=sb.1;rw [size_push] at e;omega) ⟨_,by rw [show (st2.push (.list [])).n=st2.n+1 from rfl]; rw [Rho.ext_a]; exact hn',fun x=>rfl⟩
  exact this
 have q4:=(ρ2.ext st2.n s2.heap.objs.size 0).ext_ag (st2.n+1) (s2.heap.push { cls:=.type "list",data:=.seq #[] }).objs.size 0;have ea:((ρ2.ext st2.n s2.heap.objs.size 0).ext (st2.n+1) (s2.heap.push { cls:=.type "list",data:=.seq #[] }).objs.size 0).a st2.n=s2.heap.objs.size:=by
  rw [(q4 st2.n (lt_succ_self _)).1,Rho.ext_a]
 have ei:((ρ2.ext st2.n s2.heap.objs.size 0).ext (st2.n+1) (s2.heap.push { cls:=.type "list",data:=.seq #[] }).objs.size 0).a it=ρ2.a it:=by
  rw [(q4 it (lt_succ_of_lt hit)).1,(q3 it hit).1]
 have el:((ρ2.ext st2.n s2.heap.objs.size 0).ext (st2.n+1) (s2.heap.push { cls:=.type "list",data:=.seq #[] }).objs.size 0).a (st2.n+1)=(s2.heap.push { cls:=.type "list",data:=.seq #[] }).objs.size:=Rho.ext_a _ _ _ _;have q24:Ag ρ2 _ st2.n:=q3.trans q4 (W03 _);have q04:Ag ρ _ st.n:=(g1.trans g2 n1).trans q24 (W01 n1 n2);have e4:Zc _ _ ξ env:=e0.mono q04 (W01 (W01 n1 n2) (W07 _ 2))
 have ec:Zc ((ρ2.ext st2.n s2.heap.objs.size 0).ext (st2.n+1) (s2.heap.push { cls:=.type "list",data:=.seq #[] }).objs.size 0) (st2.n+2) ⟨{ sc with names:=YG ξ sc.names },st2.n+1,cs,ξ.code,ξ.qual,ξ.lev⟩
   { newEnv sc (s2.heap.push { cls:=.type "list",data:=.seq #[] }).objs.size env.globals (cs.map fun p=>(p.1,ρ.a p.2)) env.qual none .none (some env) env.builtins with scope:=relabel sc env }:=by
  refine ⟨Z3P (Q2 hf.2) e0.sc,W02 _,el.symm,fun y j hj=>?_,e0.globals,e0.builtins,e0.code,e0.qual⟩;have hj':=Z0s e0 hc _ (Xk hj);exact ⟨W00 hj' (W01 (W01 n1 n2) (W07 _ 2)),by
   rw [(q04 j hj').1];exact Z0U hj⟩
 clear q4
 generalize ((ρ2.ext st2.n s2.heap.objs.size 0).ext (st2.n+1) (s2.heap.push { cls:=.type "list",data:=.seq #[] }).objs.size 0)=ρ4 at R4 q24 q04 e4 ec ea ei el
 have loop:∀ {s':Shared},s'={ s2 with heap:=h',toks:=s2.toks+0 }→codeAny (model c.prog c.w) A (.compLoop (.ListComp elt [⟨target,iter,ifs,0⟩] sc pos) 0 (.ref (ρ2.a it)) (.ref s2.heap.objs.size)
   { newEnv sc (s2.heap.push { cls:=.type "list",data:=.seq #[] }).objs.size env.globals (cs.map fun p=>(p.1,ρ.a p.2)) env.qual none .none (some env) env.builtins with scope:=relabel sc env })
   (RR (.ref s2.heap.objs.size) (s2.heap.push { cls:=.type "list",data:=.seq #[] }).objs.size) s':=by
  intro s' hs';subst hs';rw [← ei,← ea];refine h3 A _ _ _ _ iter sc pos r ec R4 (W00 hit (W07 _ 2)) (W00 (W02 st2.n) (W03 _)) fun f s5 z9=>xEAAA z9 fun ρ5 g5 n5 R5 u0=>?_;have n5':st2.n+2≤st4.n:=n5;have:=hk ρ5 st2.n st4 s5 f (q04.trans g5 (W01 (W01 n1 n2) (W07 _ 2))) (by rw [(g5 (st2.n+1) (lt_succ_self _)).1,el]; exact hng) (by omega) (by omega) R5 h2 (e4.mono g5 n5)
  rw [(g5 st2.n (Nat.lt_of_lt_of_le (lt_succ_self st2.n) (Nat.le_succ _))).1,(g5 (st2.n+1) (lt_succ_self _)).1,el] at this;exact this
 refine codeAny_compStart_list (loop rfl) ?_;rw [← ei];refine Z3C R4 ?_ (by rw [ei]; exact loop rfl);have:((st2.push (.list [])).push (.frame [])).get it=st2.get it:=by
  rw [St.get_push,if_neg (show ¬ it=(st2.push (.list [])).n from ne_of_lt (lt_succ_of_lt hit)),St.get_push,if_neg (ne_of_lt hit)]
 rw [this];exact hiter
end
theorem ZdN (h:c=false):(if c=true then X else Y)=Y:=by rw [h]; rfl
section
variable {c:Cfg}{T:Tab}{rec:Ev}{ρ:Rho}{st st' st1 st2 st3:St}{s:Shared}{A:Around}{E:Value→Shared→Prop}{ξ:Z3}{env:Env}
theorem Z4x (R:Rel c ρ st s)(hg:st.get l=some (.list xs))(hz:xs.length<lim)(hy:y.Is ρ st.n v) 
  (hq:∀ s1,Rel c ρ (st.put l (.list (xs++[y]))) s1→Q .none s1):wpAny (model c.prog c.w) A (call (.builtin "list.append") [.ref (ρ.a l),v]) Q E s:=by
 (refine xAA (R.at_ _ _ hg) ?_;intro _ o0 _;obtain ⟨vs,ep,e1,e2⟩:=o0)
 have hlen:=e2.length;simp only [length_toList] at hlen;refine wpAny_list_append_plain ⟨_,e1⟩ (fun h' hp sb=>hq _ ?_) (by (first | delta lim at hz | unfold lim at hz);unfold sizeLine;omega)
 (refine xE hp ?_;intro ep' hp)
 refine Qe R hg s.toks sb ⟨vs.push v,ep',hp,?_⟩;have:(vs.push v).toList=vs.toList++[v]:=by simp
 rw [this];exact e2.append ⟨hy,trivial⟩
theorem Z7A (h:Zi ξ.sc.kind=true)(e0:Zc ρ st.n ξ env):interactive env=false:=by
 unfold interactive;rw [e0.sc,Q2 h];rfl
theorem Z3h (hsw:swapsWith v (some t) pos.line env=pure false)(hss:swappedStores [t] v env=pure none)
  (h:wpAny (model c.prog c.w) A (eval v env) (fun u s1=>wpAny (model c.prog c.w) A (assign t env u) (fun u0=>Q .next) E s1) E s) (hst:Zq t=false):wpAny (model c.prog c.w) A (exec (.Assign [t] v pos) env) Q E s:=by
 rw [arm_exec_Assign];refine W0j (W0l ?_);show wpAny _ _ (swapsWith v (some t) pos.line env >>= _) _ _ _;rw [hsw];refine W0j (W0k ?_);rw [if_neg (by decide)];refine W0j (wpAny_mono h (fun u s1 h1=>?_) fun u0 u0 z=>z);rw [hss];refine W0j (W0k ?_);have he:(assignEach [t] env).map (·.2)=[assign t env]:=by induction t using PySem.Expr.casesOn<;>first | rfl | cases hst
 rw [he];exact W0j (wpAny_mono h1 (fun u0 s2 z=>W0k z) fun u0 u0 z=>z)
theorem sw1 (h:(!Zmx v)=true):swapsWith v (some t) n env=pure false:=by
 induction v using PySem.Expr.casesOn<;>first | rfl | exact noB h
theorem Z78 (h:Zjp t v=true):swapsWith v (some t) n env=pure false∧swappedStores [t] v env=pure none∧Zq t=false:=by
 induction t using PySem.Expr.casesOn with
 | Name x p=>exact ⟨sw1 h,rfl,rfl⟩
 | Attribute x p=>exact ⟨sw1 h,rfl,rfl⟩
 | Subscript x p=>exact ⟨sw1 h,rfl,rfl⟩
 | Tuple ts k p=>induction v using PySem.Expr.casesOn with
  | Call=>exact ⟨rfl,rfl,rfl⟩
  | _=>exact noB h
 | _=>exact noB h
theorem Z3e:∀ {xs:List Str}{vs:List MV}{us:List Value}{st:St}{s:Shared}{k:St→Res}{z:Out×St}{Q:Unit→Shared→Prop},Yr ξ xs vs st k=some z→Rel c ρ st s→Zc ρ st.n ξ env→Are ρ st.n vs us →
  (∀ st1 s1,k st1=some z→st1.n=st.n→Rel c ρ st1 s1→Q () s1)→wpAny (model c.prog c.w) A (assignInOrder (xs.map fun n=>bindName env n) us) Q E s
 | [],vs,us,st,s,k,z,Q,h,R,e0,ha,hq=>by
  cases us with
  | nil=>exact W0k (hq _ _ h rfl R)
  | cons _ _=>exact W0k (hq _ _ h rfl R)
 | x::xs,[],us,st,s,k,z,Q,h,R,e0,ha,hq=>by cases h
 | x::xs,v::vs,[],st,s,k,z,Q,h,R,e0,ha,hq=>ha.elim
 | x::xs,v::vs,u::us,st,s,k,z,Q,h,R,e0,ha,hq=>by
  show wpAny _ _ (holding us (bindName env x u) >>= fun u0=>assignInOrder (xs.map fun n=>bindName env n) us) _ _ _
  refine W0j (wpAny_holding (wpAny_bindName (Z1j h R e0 ha.1 fun st1 s1 h1 hn R1=>?_)));exact Z3e h1 R1 (by rw [hn]; exact e0) (by rw [hn]; exact ha.2) fun st2 s2 hk hn2 R2=>hq st2 s2 hk (hn2.trans hn) R2
theorem Z23 (hfn:Zi ξ.sc.kind=true)(e0:Zc ρ st.n ξ env) :
  swapsWith (.ListComp elt gens sc vp) (some (.Name x p)) n env=pure (JJ ξ x p vp sc.names):=by
 have hko:=Z0S e0.sc x;have hkf:env.scope.kind = .function:=by rw [e0.sc]; exact Q2 hfn
 have hl:(env.kindOf x==some .local)=QA x .local ξ.sc.names:=by
  rw [hko];unfold QA
  cases hkk:kindOf x ξ.sc.names with
  | none=>rfl
  | some j=>induction j using PySem.NameKind.casesOn<;>rfl
 have hb:(env.blockKind == .function)=true:=by unfold Env.blockKind;rw [hkf]; rfl
 have hln:(p.line==(Expr.ListComp elt gens sc vp).pos.line)=beq p.line vp.line:=by
  show (p.line==vp.line)=_
  rw [Tr.beq_eq];by_cases h:p.line=vp.line<;>simp [h]
 show pure (env.blockKind == .function&&env.kindOf x==some .local&&p.line==(Expr.ListComp elt gens sc vp).pos.line&&!(sc.names.any fun q=>q.1==x&&(q.2 == .local||q.2 == .cell)))=_
 rw [hb,hl,hln,Bool.true_and];rfl
theorem Zc5 {G:Prop}(h:ZkU e=some x)(g:∀ p,e = .Name x p→G):G:=by
 induction e using PySem.Expr.casesOn with
 | Name y p=>exact injS h fun q=>g p (q▸rfl)
 | _=>exact no h
theorem Z26 (e0:Zc ρ st.n ξ env)(hF:∀ x p,F (.Name x p)=if (env.kindOf x==some .local&&p.line==n)=true then some x else none):∀ {ts:List Expr}{l:List Str},locals ξ ts=some l→ZjP n ts=true →
  ts.filterMap F=l∧l.length=ts.length
 | [],l,h,_=>by cases h;exact ⟨rfl,rfl⟩
 | e::r,l,h,hl=>by
  refine bE h fun x hx h3=>bT h3 fun h1 h4=>bE h4 fun l' h2 h5=>Zc5 hx fun p he=>?_;clear h h3 h4 hx;subst he;have hl:=W0h hl
  cases h5
  obtain ⟨i1,i2⟩:=Z26 e0 hF h2 hl.2;have hk:(env.kindOf x==some .local)=true:=by
   rw [Z0S e0.sc x];have h1:(match kindOf x ξ.sc.names with | some j=>decide (j = .local) | none=>false)=true:=h1
   cases hkk:kindOf x ξ.sc.names with
   | none=>rw [hkk] at h1;exact noB h1
   | some j=>rw [hkk] at h1;cases of_decide_eq_true h1;rfl
  have hp:(p.line==n)=true:=by rw [eq_of_beq_eq_true hl.1]; exact beq_self_eq_true n
  refine ⟨?_,congrArg Nat.succ i2⟩;rw [filterMap_cons,hF,hk,hp];exact congrArg (x::·) i1
theorem Z6Y (h:Xe l=true)(hl:l.length=2∨l.length=3):l.eraseDups.length=l.length:=by
 have ne:∀ {x y:Str},decide (x=y)=false→x≠y:=fun h=>of_decide_eq_false h;have two:∀ {l:List Str} {n},l.length=n+1→∃ a r,l=a::r∧r.length=n:=fun {l n} e=>List.rec (motive:=fun l=>l.length=n+1→∃ a r,l=a::r∧r.length=n) (fun e=>nomatch e) (fun a r u0 e=>⟨a,r,rfl,Nat.succ.inj e⟩) l e;rcases hl with e | e
 ·obtain ⟨a,r,e1,e⟩:=two e;obtain ⟨b,s,e2,e⟩:=two e;have e3:=List.eq_nil_of_length_eq_zero e;subst e3;subst e2;subst e1;have hab:a≠b:=by
   rintro rfl
   simp [Xe,ZiG] at h
  simp [List.eraseDups_cons,hab.symm]
 ·obtain ⟨a,r,e1,e⟩:=two e;obtain ⟨b,s,e2,e⟩:=two e;obtain ⟨d,t,e4,e⟩:=two e;have e3:=List.eq_nil_of_length_eq_zero e;subst e3;subst e4;subst e2;subst e1;have hab:a≠b:=by rintro rfl;simp [Xe,ZiG] at h
  have had:a≠d:=by
   rintro rfl
   by_cases e:a=b<;>simp [Xe,ZiG,e] at h
  have hbd:b≠d:=by rintro rfl;simp [Xe,ZiG] at h
  simp [List.eraseDups_cons,hab.symm,had.symm,hbd.symm]
set_option backward.match.sparseCases true in
theorem Z4P (e0:Zc ρ st.n ξ env)(hl:Zje ξ ts vs=some l):swappedStores [.Tuple ts k p] (.Tuple vs k' p') env=pure (some l):=by
 refine boL hl fun l' hc hloc hl=>bT hl fun hap hl=>?_;obtain rfl:l'=l:=W0g hl;clear hl;simp only [and_eq_true,or_eq_true,not_eq_true'] at hc
 (refine xA hc ?_;(try clear hc);intro o0 q7;obtain ⟨⟨⟨⟨⟨q1,q2⟩,q3⟩,q4⟩,q5⟩,q6⟩:=o0)
 have m2:=(Z26 e0 (n:=ZhB ts) (F:=fun | .Name x p=>if (env.kindOf x==some .local&&p.line==ZhB ts)=true then some x else none | _=>none) (fun u0 u0=>rfl) hloc q3).2;have key:∀ F:Expr→Option Str,(∀ x p,F (.Name x p)=if (env.kindOf x==some .local&&p.line==ZhB ts)=true then some x else none)→ts.filterMap F=l':=fun F hF=>(Z26 e0 hF hloc q3).1
 have hts:ts.length=2∨ts.length=3:=q1.imp W09 W09;have hvs:=W09 q2;have hb:env.blockKind = .function:=by unfold Env.blockKind;rw [e0.sc,Q2 q5]; rfl
 show swappedStores [.Tuple ts k p] (.Tuple vs k' p') env=pure (some l')
 have c1:(!(ts.length==2||ts.length==3)||vs.length != ts.length||env.blockKind != .function)=false:=by
  rw [hb,hvs];rcases hts with e | e<;>rw [e]<;>rfl
 have c3:(ts.head?.map (·.pos.line)).getD 0=ZhB ts:=by
  cases ts with
  | nil=>rfl
  | cons t ts=>induction t using PySem.Expr.casesOn<;>first | rfl | (exfalso;cases hloc)
 refine (ZdN c1).trans ?_;refine (ZdN ?_).trans ?_
 ·exact (congrArg (vs.any ·) (funext fun y=>by induction y using PySem.Expr.casesOn<;>rfl)).trans q4
 have c4:(l'.length != ts.length||l'.eraseDups.length != l'.length)=false:=by
  rw [Z6Y hap (by rw [m2]; exact hts),m2,bne_self_eq_false];rfl
 have kf:ts.filterMap (fun | .Name id pos=>if (env.kindOf id==some .local&&pos.line==(ts.head?.map (·.pos.line)).getD 0)=true then some id else none | _=>none)=l':=key _ fun x p=>by rw [c3]
 refine (ZdN ?_).trans ?_
 ·rw [← kf] at c4;exact c4
 refine (ZdN q6).trans ((ZdN q7).trans ?_);exact congrArg (fun z=>pure (some z)) kf
end
section
variable {c:Cfg}{T:Tab}{rec:Ev}{ρ:Rho}{st st' st1:St}{s:Shared}{A:Around}{E:Value→Shared→Prop}{ξ:Z3}{env:Env}
theorem Zbb {n:Nat}(h:n≤1000000):(n:Int)<2 ^ 63:=by omega
theorem Zg4 {G:Prop}{α:Type}{x:α}{o:Option MObj}{F F':List MV→Option α}(h:(match o with | some (.list l)=>F l | some (.tup l)=>F' l | _=>none)=some x)(g:∀ l,o=some (.list l)→F l=some x→G)(g':∀ l,o=some (.tup l)→F' l=some x→G):G:=by
 cases o with
 | none=>exact no h
 | some o=>cases o with
  | list l=>exact g l rfl h
  | tup l=>exact g' l rfl h
  | _=>exact no h
theorem Zed (R:Rel c ρ st s)(h:JI T c.ro .len args st=some (.v x,st'))(ha:Are ρ st.n args vs) :
  wpAny (model c.prog c.w) A (call (.builtin "len") vs) (PV c ρ st.n st' x) E s:=by
 match args,vs,ha with
 | [],_,_=>cases h
 | a::_::_,_,_=>induction a using MV.casesOn<;>exact no h
 | [a],[v],ha =>
  obtain ⟨ha,_⟩:=ha
  cases a with
  | str y =>
   refine bT h fun hs h=>?_
   ·cases h
    (refine xE ha ?_;(try clear ha);intro t o0;subst o0)
    have:=Zbb (Z1k hs)
    exact P.len_str (by omega) (Z7.here (R.toks _) ⟨_,rfl⟩)
  | ref i =>
   (refine xA ha ?_;(try clear ha);intro _ o1;subst o1)
   refine Zg4 (o:=rd c.ro st i) h (fun xs hr h=>bT h fun hz h=>?_) fun xs hr h=>bT h fun hz h=>?_
   ·cases h
    obtain ⟨_,us,ep,e1,e2⟩:=ZL R hr;have hl:=e2.length;simp only [length_toList] at hl;have:=Zbb (W06 hz);exact PyProof.Rows.len_list (items:=us) ⟨_,e1,rfl,_,rfl⟩ (by rw [hl]; exact this) (Z7.here (R.toks _) ⟨_,by rw [hl]⟩)
   ·cases h
    obtain ⟨_,us,ep,e1,e2⟩:=ZL R hr;have hl:=e2.length;simp only [length_toList] at hl;have:=Zbb (W06 hz);exact PyProof.Rows.len_tuple (items:=us) ⟨_,e1,rfl,_,rfl⟩ (by rw [hl]; exact this) (Z7.here (R.toks _) ⟨_,by rw [hl]⟩)
  | _=>cases h
 | [_],[],ha=>exact ha.elim
 | [_],_::_::_,ha=>exact ha.2.elim
theorem Zdv (R:Rel c ρ st s):wpAny (model c.prog c.w) A (call (.builtin "abs") [.int a t]) (PV c ρ st.n st (MV.int (Zm3 a))) E s :=
 PyProof.Rows.call_abs_int fun u tk=>Z7.here (R.toks _) ⟨u,rfl⟩
theorem Ze7 (hh:A.handled=none)(R:Rel c ρ st s):wpAny (model c.prog c.w) A (call (.builtin "max") [.int a t,.int b u]) (PV c ρ st.n st (MV.int (JY a b))) E s :=
 max_two_ints hh fun h' tk hk=>by
  have R1:Rel c ρ st { s with heap:=h',toks:=tk }:=R.more (h':=h') tk hk;unfold JY;by_cases q:a<b
  ·rw [if_pos q,if_pos (show b > a from q)]; exact Z7.here R1 ⟨u,rfl⟩
  ·rw [if_neg q,if_neg (show ¬ b > a from q)]; exact Z7.here R1 ⟨t,rfl⟩
theorem ZcK (hh:A.handled=none)(R:Rel c ρ st s):wpAny (model c.prog c.w) A (call (.builtin "min") [.int a t,.int b u]) (PV c ρ st.n st (MV.int (Qy a b))) E s :=
 min_two_ints hh fun h' tk hk=>by
  have R1:Rel c ρ st { s with heap:=h',toks:=tk }:=R.more (h':=h') tk hk;unfold Qy;by_cases q:b<a
  ·rw [if_pos q,if_pos q]; exact Z7.here R1 ⟨u,rfl⟩
  ·rw [if_neg q,if_neg q]; exact Z7.here R1 ⟨t,rfl⟩
theorem Z3t:∀ {xs:List MV}{us:List Value}{b:Bool},Zi3 xs=some b→Are ρ st.n xs us→∃ tr:Nat→Bool,(∀ (i:Nat)(v:Value),us[i]?=some v→v=Value.bool (tr i))∧b=(List.range us.length).all tr
 | [],[],b,h,_=>⟨fun u0=>true,fun i v e=>by simp at e,by cases h;rfl⟩
 | x::xs,u::us,b,h,ha=>by
  cases x with
  | bool a =>
   refine bE h fun d hd h=>?_
   ·cases h
    obtain ⟨tr,h1,h2⟩:=Z3t hd ha.2;refine ⟨fun i=>match i with | 0=>a | i+1=>tr i,fun i v e=>?_,?_⟩
    ·induction i using casesAuxOn with
     | zero=>simp at e;subst e;exact ha.1
     | succ i=>exact h1 i v (by simpa using e)
    ·rw [h2,length_cons,range_succ_eq_map];simp [Function.comp_def,List.all_map]
  | _=>exact no h
 | [],_::_,_,_,h=>h.elim
 | _::_,[],_,_,h=>h.elim
theorem Zd9 (hh:A.handled=none)(R:Rel c ρ st s)(hr:rd c.ro st i=some (.list xs))(hb:Zi3 xs=some b) :
  wpAny (model c.prog c.w) A (call (.builtin "all") [.ref (ρ.a i)]) (PV c ρ st.n st (MV.bool b)) E s:=by
 obtain ⟨_,us,ep,e1,e2⟩:=ZL R hr;have hL:s.heap.IsList (ρ.a i) us:=⟨_,e1,rfl,_,rfl⟩;obtain ⟨tr,h1,h2⟩:=Z3t hb e2;have hlt:=lt_size e1;refine call_all_walk (wpAny_pyIter_list hL ?_);refine ⟨s.heap.objs.size,[s.heap.objs.size,ρ.a i],[s.heap.objs.size],us.size,_,_,tr,rfl,Walks.list (A:=A.in1) hh s.heap.objs.size (ρ.a i) (W05 hlt) us,⟨⟨_,get?_push_size _ rfl,rfl,rfl⟩,⟨_,get?_push_of_some _ e1,rfl,_,rfl⟩⟩,?_,fun h' tk hk=>?_⟩
 ·intro j v s Q E hP hQ;have:=h1 j v (by simpa using hP);subst this;exact wpAny_truthy_bool hQ
 ·have R1:Rel c ρ st { s with heap:=h',toks:=tk }:=R.more (h':=h') tk fun b o hb=>hk b o (by simp only [mem_singleton]; exact W05 (lt_size hb)) (get?_push_of_some _ hb);simp only [length_toList] at h2;rw [← h2];exact Z7.here R1 rfl
theorem Z5E (R:Rel c ρ st s)(C:c.Ok)(hb:True)(tk:Nat):Z7 c ρ st.n (st.push (.rng a b d)) { s with heap:=s.heap.push { cls:=.type "range",data:=.fields #[.int a t,.int b u,.int d v] },toks:=tk } fun ρ'=>(MV.ref st.n).Is ρ' (st.n+1) (.ref s.heap.objs.size):=by
 refine ⟨_,ρ.ext_ag st.n s.heap.objs.size 0,W03 _,R.push C tk hb ⟨t,u,v,?_⟩,W02 _,by rw [Rho.ext_a]⟩;rw [Rho.ext_a]; exact get?_push_size _ rfl
theorem Zau (R:Rel c ρ st s)(h:Yv x=true):wpAny (model c.prog c.w) A (call (.builtin "str.strip") [.str x t]) (PV c ρ st.n st (MV.str (Txt.strip x))) E s :=
 SC.strip (fun t' k=>Z7.here (R.toks _) ⟨t',rfl⟩) (by have:=Z1k h;unfold sizeLine;omega)
theorem ZbH (R:Rel c ρ st s):wpAny (model c.prog c.w) A (call (.builtin "str.endswith") [.str x t,.str y u]) (PV c ρ st.n st (MV.bool (Txt.endswith x y))) E s :=
 SC.endswith (Z7.here R rfl)
theorem Zby (C:c.Ok)(R:Rel c ρ st s)(h:Y2 c.ro st d=some es)(hd:d.Is ρ st.n vd) :
  wpAny (model c.prog c.w) A (call (.builtin "dict.get") [vd,.str k t]) (PV c ρ st.n st ((Z2 k es).getD .none)) E s:=by
 (refine xEEEAAAA (QF C R h hd) ?_;intro i kvs ep e1 o0 e3 e4 e5;subst o0)
 refine call_meetsIn PySem.F.slot_dict_get e3.dictOf.typeIs PySem.F.entry_dict_get (PySem.F.args_dict_get_2 _ _) (meets_dict_get (PySem.strKind c.prog c.w) _ (QG k t) e5) ⟨_,e3.dictOf.mapOf,Z7.here (R.toks _) ?_⟩;have z:=Z0V k e4
 cases hl:Z2 k es with
 | none=>rw [hl] at z;rw [z]; rfl
 | some x=>rw [hl] at z;obtain ⟨v,hv,hx⟩:=z;rw [hv]; exact hx
theorem Zcn (C:c.Ok)(R:Rel c ρ st s)(h:Y2 c.ro st d=some es)(hd:d.Is ρ st.n vd)(hu:dv.Is ρ st.n u) :
  wpAny (model c.prog c.w) A (call (.builtin "dict.get") [vd,.str k t,u]) (PV c ρ st.n st ((Z2 k es).getD dv)) E s:=by
 (refine xEEEAAAA (QF C R h hd) ?_;intro i kvs ep e1 o0 e3 e4 e5;subst o0)
 refine call_meetsIn PySem.F.slot_dict_get e3.dictOf.typeIs PySem.F.entry_dict_get (PySem.F.args_dict_get_3 _ _ _) (meets_dict_get_default (PySem.strKind c.prog c.w) _ (QG k t) e5 u) ⟨_,e3.dictOf.mapOf,Z7.here (R.toks _) ?_⟩;have z:=Z0V k e4
 cases hl:Z2 k es with
 | none=>rw [hl] at z;rw [z]; exact hu
 | some x=>rw [hl] at z;obtain ⟨v,hv,hx⟩:=z;rw [hv]; exact hx
end
section
variable {c:Cfg}{T:Tab}{rec:Ev}{ρ:Rho}{st st' st1:St}{s:Shared}{A:Around}{E:Value→Shared→Prop}{ξ:Z3}{env:Env}
theorem Z9Y (R:Rel c ρ st s)(h:Builtin.Str.tooLong (Txt.lower x).length=false):wpAny (model c.prog c.w) A (call (.builtin "str.lower") [.str x t]) (PV c ρ st.n st (MV.str (Txt.lower x))) E s :=
 SC.lower h (Z7.here (R.toks _) ⟨_,rfl⟩)
theorem Zaw (R:Rel c ρ st s)(h:Builtin.Str.occurrences x y 0 x.length 1=i::rest):wpAny (model c.prog c.w) A (call (.builtin "str.index") [.str x t,.str y u]) (PV c ρ st.n st (MV.int i)) E s :=
 SC.index h (Z7.here (R.toks _) ⟨_,rfl⟩)
theorem Z8s:∀ {xs:List MV}{ys:List Str}{us:List Value},XV xs=some ys→Are ρ n xs us→∃ l:List (Str×Tok),us=strValues l∧l.map (·.1)=ys
 | [],ys,[],h,_=>by cases h;exact ⟨[],rfl,rfl⟩
 | x::xs,ys,u::us,h,ha=>by
  cases x with
  | str y =>
   (refine xEA (map_eq_some_iff.mp h) ?_;intro zs h1 o0;subst o0)
   obtain ⟨l,h2,h3⟩:=Z8s h1 ha.2
   (refine xE (ha.1) ?_;intro t o1;subst o1)
   exact ⟨(y,t)::l,by rw [h2]; rfl,by rw [map_cons,h3]⟩
  | _=>cases h
 | [],_,_::_,_,h=>h.elim
 | _::_,_,[],_,h=>h.elim
theorem Zcj (R:Rel c ρ st s)(hr:rd c.ro st i=some (.list xs))(hs:XV xs=some ys)(hok:JoinOk x ys=true) :
  wpAny (model c.prog c.w) A (call (.builtin "str.join") [.str x t,.ref (ρ.a i)]) (PV c ρ st.n st (MV.str (Txt.join x ys))) E s:=by
 obtain ⟨_,us,ep,e1,e2⟩:=ZL R hr;obtain ⟨l,h2,h3⟩:=Z8s hs e2;exact SC.join (l:=l) ⟨_,e1,rfl,ep,by rw [← h2]⟩ h3 hok fun t' k=>Z7.here (R.toks _) ⟨t',rfl⟩
theorem Z6Q:∀ (l:List (Str×Tok)),Are ρ n ((l.map (·.1)).map .str) (strValues l)
 | []=>trivial
 | (x,t)::l=>⟨⟨t,rfl⟩,Z6Q l⟩
theorem Z9E (C:c.Ok)(R:Rel c ρ st s)(hb:True)(hx:Yv x=true)(hy:(y.length==0)=false)(hp:(Txt.split x y).length≤1000000) :
  wpAny (model c.prog c.w) A (call (.builtin "str.split") [.str x t,.str y u]) (fun v s'=>Z7 c ρ st.n (st.push (.list ((Txt.split x y).map .str))) s' fun ρ'=>(MV.ref st.n).Is ρ' (st.n+1) v) E s:=by
 have hxl:=Z1k hx;have key:∀ (l:List (Str×Tok)) (tk:Nat),l.map (·.1)=Txt.split x y→Z7 c ρ st.n (st.push (.list ((Txt.split x y).map .str))) { s with heap:=s.heap.push { cls:=.type "list",data:=.seq (strValues l).toArray },toks:=tk } fun ρ'=>(MV.ref st.n).Is ρ' (st.n+1) (.ref s.heap.objs.size):=by
  intro l tk hl;rw [← hl];exact Z2B R C hb 0 (by simpa using Z6Q l) tk _ rfl
 cases h1:(decide (x.length<y.length)||decide (Builtin.Str.strKind x<Builtin.Str.strKind y))
 ·cases hf:(Builtin.Str.occurrences x y 0 x.length (x.length+1)).isEmpty
  ·have hsp:Txt.split x y=Builtin.Str.partsBetween x (Builtin.Str.occurrences x y 0 x.length (x.length+1)) y.length:=by unfold Txt.split;rw [if_neg (ne_true_of_eq_false h1),if_neg (ne_true_of_eq_false hf)]
   rw [hsp] at hp;refine call_meets PySem.F.slot_str_split (typeIs_str _ _ _) PySem.F.entry_str_split (PySem.F.args_str_split_2 _ _) (meets_str_split_sep x y t u h1 hy hf (by unfold sizeLine;omega) (by unfold sizeLine;omega)) ?_;show wants _ E _ { s with toks:=_,heap:=s.heap.push { cls:=.type "list",data:=.seq (strsFrom s.toks (Builtin.Str.partsBetween x (Builtin.Str.occurrences x y 0 x.length (x.length+1)) y.length)).toArray } }
   rw [strsFrom_eq];exact key _ _ ((numbered_texts _ _).trans hsp.symm)
  ·have hsp:Txt.split x y=[x]:=by unfold Txt.split;rw [if_neg (ne_true_of_eq_false h1),if_pos hf]
   exact call_meets PySem.F.slot_str_split (typeIs_str _ _ _) PySem.F.entry_str_split (PySem.F.args_str_split_2 _ _) (meets_str_split_not_found x y t u h1 hy hf) (key [(x,t)] s.toks hsp.symm)
 ·have hsp:Txt.split x y=[x]:=by unfold Txt.split;rw [if_pos h1]
  exact call_meets PySem.F.slot_str_split (typeIs_str _ _ _) PySem.F.entry_str_split (PySem.F.args_str_split_2 _ _) (meets_str_split_cannot_occur x y t u h1) (key [(x,t)] s.toks hsp.symm)
theorem Z8N (C:c.Ok)(R:Rel c ρ st s)(hg:st.get i=some (.dict es))(he:Y2 c.ro st o=some fs)(ho:o.Is ρ st.n vo)(hne:vo ≠ .ref (ρ.a i))(hz:es.length+fs.length≤1000) :
  wpAny (model c.prog c.w) A (call (.builtin "dict.update") [.ref (ρ.a i),vo]) (PV c ρ st.n (st.put i (.dict (putAll fs es))) MV.none) E s:=by
 (refine xAA (R.at_ _ _ hg) ?_;intro _ o0 _;obtain ⟨kvs,ep,h1,h2⟩:=o0)
 (refine xEEEAAAA (QF C R he ho) ?_;intro j more ep2 e1 o1 e3 e4 e5;subst o1)
 refine call_meetsIn PySem.F.slot_dict_update h1.dictOf.typeIs PySem.F.entry_dict_update (PySem.F.args_dict_update_2 _ _) (meets_dict_update (PySem.strKind c.prog c.w) _ _ (fun q=>hne (by rw [q])) e5) ⟨kvs,more,h1.dictOf,e3.dictOf,?_,fun h' d1 d2 sb=>?_⟩
 ·have:=h2.length
  have:=e4.length
  unfold sizeLine;omega
 ·exact ⟨ρ,Ag.refl _ _,W04 _,Z1F R hg s.toks d1 sb (Zu.putAll e4 h2 h1.nodup).1,rfl⟩
theorem Z50 (C:c.Ok)(R:Rel c ρ st s)(hb:True)(he:Y2 c.ro st o=some fs)(ho:o.Is ρ st.n vo)(hz:fs.length≤1000) :
  wpAny (model c.prog c.w) A (call (.type "dict") [vo]) (PV c ρ st.n (st.push (.dict fs)) (MV.ref st.n)) E s:=by
 (refine xEEEAAAA (QF C R he ho) ?_;intro j more ep2 e1 o0 e3 e4 e5;subst o0)
 refine kt_call_dict (knd:=PySem.strKind c.prog c.w) e5 e3.dictOf (by have:=e4.length;unfold sizeLine;omega) fun h' d1 sb=>?_;have g:=ρ.ext_ag st.n s.heap.objs.size 0;obtain ⟨ep,d1⟩:=d1.dictAt;refine ⟨_,g,W03 _,R.new (h':=h') C _ hb (fun b ob e=>sb.extBut b ob (W05 (lt_size e)) (get?_push_of_some _ e)) (W04 _) (by have e:=sb.1;rw [size_push] at e;omega) ⟨more,ep,by rw [Rho.ext_a]; exact d1,e4.mono g (W03 _)⟩,W02 _,by rw [Rho.ext_a]⟩
end
section
variable {c:Cfg}{T:Tab}{rec:Ev}{ρ:Rho}{st st' st1:St}{s:Shared}{A:Around}{E:Value→Shared→Prop}{ξ:Z3}{env:Env}
theorem Z49 (C:c.Ok):∀ {names:List (Str×NameKind)}{st:St}{s:Shared}{ρ:Rho}{k:St→Res}{z:Out×St},YR names st k=some z→Rel c ρ st s →
  ∃ ρ' st1,k st1=some z∧Ag ρ ρ' st.n∧st.n≤st1.n∧Rel c ρ' st1 { s with heap:=pushCells s.heap names }∧(∀ acc,cellsFrom s.heap.objs.size names acc=(newCells names st.n).map (fun p=>(p.1,ρ'.a p.2))++acc)∧∀ p∈newCells names st.n,p.2<st1.n
 | [],st,s,ρ,k,z,h,R=>⟨ρ,st,h,Ag.refl _ _,W04 _,R,fun acc=>rfl,fun p hp=>nomatch hp⟩
 | (x,kd)::r,st,s,ρ,k,z,h,R=>by
  by_cases hk:kd = .cell
  ·subst hk;obtain ⟨hb,h⟩:=St.alloc_eq h;have g:=ρ.ext_ag st.n s.heap.objs.size 0;have R1:Rel c (ρ.ext st.n s.heap.objs.size 0) (st.push (.cell none)) { s with heap:=s.heap.push { cls:=.type "cell",data:=.cell none } }:=by
    refine R.push C s.toks hb ⟨{ cls:=.type "cell",data:=.cell none },?_,rfl⟩;rw [Rho.ext_a]; exact get?_push_size _ rfl
   obtain ⟨ρ',st1,h1,h2,h3,h4,h5,h6⟩:=Z49 C h R1;have hn:st.n+1≤st1.n:=h3;refine ⟨ρ',st1,h1,g.trans h2 (W03 _),Nat.le_of_succ_le hn,?_,fun acc=>?_,fun p hp=>?_⟩
   ·have:pushCells s.heap ((x,NameKind.cell)::r)=pushCells (s.heap.push { cls:=.type "cell",data:=.cell none }) r:=rfl
    rw [this]; exact h4
   ·have e1:cellsFrom s.heap.objs.size ((x,NameKind.cell)::r) acc=cellsFrom (s.heap.objs.size+1) r ((x,s.heap.objs.size)::acc):=rfl;have e2:newCells ((x,NameKind.cell)::r) st.n=newCells r (st.n+1)++[(x,st.n)]:=rfl;have h5':=h5 ((x,s.heap.objs.size)::acc);rw [show ({ s with heap:=s.heap.push { cls:=.type "cell",data:=.cell none } }:Shared).heap.objs.size=s.heap.objs.size+1 from size_push ..] at h5'
    have ea:ρ'.a st.n=s.heap.objs.size:=by rw [(h2 st.n (lt_succ_self _)).1,Rho.ext_a]
    rw [e1,e2,h5',map_append];show _=(_++[(x,ρ'.a st.n)])++acc;rw [ea];simp
   ·have e2:newCells ((x,NameKind.cell)::r) st.n=newCells r (st.n+1)++[(x,st.n)]:=rfl;rw [e2] at hp;rcases mem_append.mp hp with hp | hp
    ·exact h6 p hp
    ·simp only [mem_singleton] at hp;subst hp;exact hn
  ·have e0:YR ((x,kd)::r) st k=YR r st k:=by induction kd using PySem.NameKind.casesOn<;>first | rfl | exact absurd rfl hk
   have e1:pushCells s.heap ((x,kd)::r)=pushCells s.heap r:=by induction kd using PySem.NameKind.casesOn<;>first | rfl | exact absurd rfl hk
   have e2:∀ n,newCells ((x,kd)::r) n=newCells r n:=by intro n;induction kd using PySem.NameKind.casesOn<;>first | rfl | exact absurd rfl hk
   have e3:∀ n acc,cellsFrom n ((x,kd)::r) acc=cellsFrom n r acc:=by intro n acc;induction kd using PySem.NameKind.casesOn<;>first | rfl | exact absurd rfl hk
   rw [e0] at h;obtain ⟨ρ',st1,h1,h2,h3,h4,h5,h6⟩:=Z49 C h R;exact ⟨ρ',st1,h1,h2,h3,by rw [e1]; exact h4,fun acc=>by rw [e2,e3]; exact h5 acc,fun p hp=>h6 p (by rw [e2] at hp;exact hp)⟩
theorem Z6A (f:Str×Value→PUnit→Sem (ForInStep PUnit))(hf:∀ n v u,f (n,v) u=(do storeName env n v;pure (.yield ⟨⟩))) :
  ∀ {xs:List Str} {vs:List MV} {us:List Value} {st:St} {s:Shared} {k:St→Res} {z:Out×St} {Q:PUnit→Shared→Prop},Yr ξ xs vs st k=some z→xs.length=us.length→Rel c ρ st s→Zc ρ st.n ξ env→Are ρ st.n vs us →
  (∀ st1 s1,k st1=some z→st1.n=st.n→Rel c ρ st1 s1→Q ⟨⟩ s1)→wpAny (model c.prog c.w) A (forIn (xs.zip us) ⟨⟩ f) Q E s
 | [],vs,us,st,s,k,z,Q,h,_,R,e0,ha,hq=>by
  exact W0k (hq _ _ h rfl R)
 | x::xs,[],us,st,s,k,z,Q,h,_,R,e0,ha,hq=>by cases h
 | x::xs,v::vs,[],st,s,k,z,Q,h,_,R,e0,ha,hq=>ha.elim
 | x::xs,v::vs,u::us,st,s,k,z,Q,h,hl,R,e0,ha,hq=>by
  rw [List.zip_cons_cons,forIn_cons,hf];refine W0j (W0j (Z1j h R e0 ha.1 fun st1 s1 h1 hn R1=>?_));refine W0k ?_;exact Z6A f hf h1 (by simpa using hl) R1 (by rw [hn]; exact e0) (by rw [hn]; exact ha.2) fun st2 s2 hk hn2 R2=>hq st2 s2 hk (hn2.trans hn) R2
theorem Z2E (C:c.Ok)(R:Rel c ρ st s):s.heap.NoLimit:=xEA C.lim fun mc h1 h2=>⟨mc,Z7c R h1 C.limU C.limS,h2⟩
theorem Zfa (args:Args):(Code.builtin "type.__call__" args).frames=0:=rfl
theorem Zfp (args:Args):(Code.builtin "type.__call__" args).cUnits=1:=rfl
theorem ZeK (args:Args):(Code.builtin "type.__call__" args).isGuard=false:=by
 show guardIds.contains "type.__call__"=false
 decide
theorem Zew (args:Args):(Code.builtin "type.__call__" args).isCaller=false:=rfl
theorem Zdb (args:Args):(Code.builtin "type.__call__" args).weight≤1:=by
 unfold Code.weight;rw [Zfa,ZeK,Zew]
 split<;>simp
theorem Z77 (hX:¬ c.X)(rm:Zg c A (lev+1)):Zg c (A.under (.builtin "type.__call__" args)) lev:=by
 have h1:=rm.depth;have h2:=rm.units;have h3:=Zdb args;have h4:=Zfp args;refine ⟨rm.hh,?_,?_,fun q=>absurd q hX⟩
 ·show A.depth+(Code.builtin "type.__call__" args).weight+4*lev+4≤1000
  omega
 ·show A.units+(Code.builtin "type.__call__" args).cUnits+20*lev+200≤9900
  omega
end
section
variable {c:Cfg}{T:Tab}{rec:Ev}{ρ:Rho}{st st' st1:St}{s:Shared}{A:Around}{E:Value→Shared→Prop}{ξ:Z3}{env:Env}
theorem Rel.newF (R:Rel c ρ st s)(t:Nat)(k:∀ b ob,s.heap.get? b=some ob→h'.get? b=some ob)(hu:¬ c.U a)(ne:∀ j oj,st.get j=some oj→ρ.a j≠a)(hng:¬ c.G a)
  (x:At c (ρ.ext st.n a e) (st.n+1) h' st.n o):Rel c (ρ.ext st.n a e) (st.push o) { s with heap:=h',toks:=t }:=by
 have g:=ρ.ext_ag st.n a e;have get:∀ j oj,(st.push o).get j=some oj→(j=st.n∧oj=o)∨(j<st.n∧st.get j=some oj):=by
  intro j oj e;rw [St.get_push] at e;by_cases hj:j=st.n
  ·rw [if_pos hj] at e;exact .inl ⟨hj,(W0g e).symm⟩
  ·rw [if_neg hj] at e;exact .inr ⟨(R.at_ j oj e).1,e⟩
 have hgr:∀ L,c.G L→(∃ o,h'.get? L=some o∧∀ vs,o.data ≠ .fields vs)∧¬ c.U L∧∀ j oj,(st.push o).get j=some oj→(ρ.ext st.n a e).a j=L→ZE oj=true:=fun L h=>by
  (refine xAA (R.big L h) ?_;intro o0 hu' hfr;obtain ⟨ob,e1,d⟩:=o0)
  refine ⟨⟨ob,k _ _ e1,d⟩,hu',fun j oj ej q=>?_⟩;rcases get j oj ej with ⟨rfl,rfl⟩ | ⟨hj,ej⟩
  ·rw [Rho.ext_a] at q;subst q;exact absurd h hng
  ·rw [(g j hj).1] at q;exact hfr j oj ej q
 refine ⟨hgr,fun j oj e=>?_,fun j l oj ol ej el q=>?_,fun j oj e=>?_,fun b ob e hub=>?_,R.gens,R.os,R.drawn⟩
 ·rcases get j oj e with ⟨rfl,rfl⟩ | ⟨hj,e⟩
  ·refine ⟨W02 _,x,fun q=>?_⟩;rw [Rho.ext_a] at q;exact hu q
  ·obtain ⟨h1,h2,h3⟩:=R.at_ j oj e;obtain ⟨ob,hob⟩:=h2.some;exact ⟨W08 h1,(h2.heap ((k _ _ hob).trans hob.symm)).mono g (W03 _) h1,by rw [(g j h1).1]; exact h3⟩
 ·rcases get j oj ej with ⟨rfl,rfl⟩ | ⟨hj,ej'⟩<;>rcases get l ol el with ⟨rfl,rfl⟩ | ⟨hl,el'⟩
  ·rfl
  ·rw [Rho.ext_a,(g l hl).1] at q;exact absurd q.symm (ne l _ el')
  ·rw [Rho.ext_a,(g j hj).1] at q;exact absurd q (ne j _ ej')
  ·rw [(g j hj).1,(g l hl).1] at q;exact R.inj j l _ _ ej' el' q
 ·obtain ⟨h1,h2,h3,h4⟩:=R.ro j oj e;obtain ⟨ob,hob⟩:=h2.some;exact ⟨W08 h1,(h2.heap ((k _ _ hob).trans hob.symm)).mono g (W03 _) h1,by rw [(g j h1).1]; exact h3,by rw [(g j h1).1]; exact h4⟩
 ·have z:=R.keep b ob e hub
  (refine xE (z.some) ?_;intro ob' hob')
  show Yh (c.F b) ob (h'.get? b)
  rw [k _ _ hob',← hob']; exact z
theorem ZbQ (C:c.Ok)(R:Rel c ρ st s)(hr:rd c.ro st i=some (.list xs)) :
  wpAny (model c.prog c.w) A (call (.type "enumerate") [.ref (ρ.a i)]) (PV c ρ st.n ((st.push (.itList i 0)).push (.itEnum st.n 0)) (MV.ref (st.n+1))) E s:=by
 obtain ⟨hi,us,ep,e1,e2⟩:=ZL R hr;refine call_enumerate_list (items:=us) ⟨_,e1,rfl,_,rfl⟩ fun h' q1 q2 q3 q4=>?_;have g1:=ρ.ext_ag st.n s.heap.objs.size 0;have g2:=(ρ.ext st.n s.heap.objs.size 0).ext_ag (st.n+1) (s.heap.objs.size+1) 0;have a1:(ρ.ext st.n s.heap.objs.size 0).a i=ρ.a i:=(g1 i hi).1;have R1:Rel c (ρ.ext st.n s.heap.objs.size 0) (st.push (.itList i 0)) { s with heap:=h',toks:=s.toks }:=by
  refine R.new (h':=h') C s.toks trivial q4 (W04 _) (by rw [q3]; omega) ⟨W08 hi,?_⟩;rw [Rho.ext_a,a1]; exact q2
 have R2:=R1.newF (h':=h') (a:=s.heap.objs.size+1) (e:=0) (o:=.itEnum st.n 0) s.toks (fun b o e=>e) (fun q=>by have:=R.old_lt C q;omega) (fun j oj ej q=>by
  rw [St.get_push] at ej;by_cases hj:j=st.n
  ·subst hj;rw [Rho.ext_a] at q;omega
  ·rw [if_neg hj] at ej;obtain ⟨h1,h2,_⟩:=R.at_ j oj ej;obtain ⟨ob,hob⟩:=h2.some;rw [(g1 j h1).1] at q;exact absurd (lt_size hob) (by rw [q]; exact W0m (W03 _))) (fun q=>by (refine xA (R.big _ q) ?_;intro o0 _;obtain ⟨ob,e,_⟩:=o0);exact absurd (lt_size e) (W0m (W03 _))) ⟨by show st.n<st.n+1+1;omega,.none,by
    rw [show (st.push (.itList i 0)).n=st.n+1 from rfl,Rho.ext_a,(g2 st.n (lt_succ_self _)).1,Rho.ext_a];exact q1⟩
 exact ⟨_,g1.trans g2 (W03 _),W07 st.n 2,R2,by show st.n+1<st.n+2;omega,by rw [Rho.ext_a]⟩
theorem Zep (h:Are ρ n [a] vs):∃ v,vs=[v]∧a.Is ρ n v:=by
 match vs,h with
 | [v],h=>exact ⟨v,rfl,h.1⟩
 | [],h=>exact h.elim
 | _::_::_,h=>exact h.2.elim
theorem ZdU (h:Are ρ n [a,b] vs):∃ v u,vs=[v,u]∧a.Is ρ n v∧b.Is ρ n u:=by
 match vs,h with
 | v::r,h=>(refine xEA (Zep h.2) ?_;intro u o0 hu;subst o0);exact ⟨v,u,rfl,h.1,hu⟩
 | [],h=>exact h.elim
theorem ZfL (h:Are ρ n [a,b,d] vs):∃ v u x,vs=[v,u,x]∧a.Is ρ n v∧b.Is ρ n u∧d.Is ρ n x:=by
 match vs,h with
 | v::r,h=>(refine xEEA (ZdU h.2) ?_;intro u x o0 hu;subst o0);exact ⟨v,u,x,rfl,h.1,hu⟩
 | [],h=>exact h.elim
theorem ZdX (R:Rel c ρ st s)(hg:st.get i=some o)(he:Y2 c.ro st (.ref j)=some fs)(hij:beq i j=false):ρ.a j≠ρ.a i:=fun q=>by
 have hi':=R.at_ _ _ hg;have hij:i≠j:=Nat.ne_of_beq_eq_false hij
 (first | delta Y2 at he | unfold Y2 at he);dsimp only at he
 have hrd:∃ o,rd c.ro st j=some o:=by
  cases hr:rd c.ro st j with
  | none=>rw [hr] at he;cases he
  | some o=>exact ⟨o,rfl⟩
 obtain ⟨o,hr⟩:=hrd
 (first | delta rd at hr | unfold rd at hr)
 cases hgj:st.get j with
 | some o'=>exact hij (R.inj _ _ _ _ hg hgj q.symm)
 | none =>
  rw [hgj] at hr;exact hi'.2.2 (q▸(R.ro _ _ hr).2.2.1)
section
variable {G:Prop}{n:Nat}{args:List MV}{vs:List Value}{z:Out×St}{P:List Value→Prop}
@[elab_as_elim] theorem are1e (h:Are ρ n [a] vs) (p:∀ v,a.Is ρ n v→P [v]):P vs:=by
 (refine xEA (Zep h) ?_;intro v o0 hv;subst o0)
 exact p v hv
@[elab_as_elim] theorem are2e (h:Are ρ n [a,b] vs) (p:∀ v u,a.Is ρ n v→b.Is ρ n u→P [v,u]):P vs:=by
 (refine xEEAA (ZdU h) ?_;intro v u o1 hv hu;subst o1)
 exact p v u hv hu
@[elab_as_elim] theorem are3e (h:Are ρ n [a,b,d] vs) (p:∀ v u x,a.Is ρ n v→b.Is ρ n u→d.Is ρ n x→P [v,u,x]):P vs:=by
 (refine xEEEAAA (ZfL h) ?_;intro v u x o2 hv hu hx;subst o2)
 exact p v u x hv hu hx
@[elab_as_elim] theorem aI {F:Int→Res} (h:(match args with | [.int a]=>F a | _=>none)=some z) (ha:Are ρ n args vs) (g:∀ a t,F a=some z→P [.int a t]):P vs:=by
 cases args with
 | nil=>exact no h
 | cons a l=>cases a with
  | int a=>cases l with
   | nil=>exact are1e ha fun v hv=>isInt hv fun t=>g a t h
   | cons _ _=>exact no h
  | _=>exact no h
@[elab_as_elim] theorem aS {F:Str→Res} (h:(match args with | [.str a]=>F a | _=>none)=some z) (ha:Are ρ n args vs) (g:∀ a t,F a=some z→P [.str a t]):P vs:=by
 cases args with
 | nil=>exact no h
 | cons a l=>cases a with
  | str a=>cases l with
   | nil=>exact are1e ha fun v hv=>isStr hv fun t=>g a t h
   | cons _ _=>exact no h
  | _=>exact no h
@[elab_as_elim] theorem aR {F:Nat→Res} (h:(match args with | [.ref a]=>F a | _=>none)=some z) (ha:Are ρ n args vs) (g:∀ a,a<n→F a=some z→P [.ref (ρ.a a)]):P vs:=by
 cases args with
 | nil=>exact no h
 | cons a l=>cases a with
  | ref a=>cases l with
   | nil=>exact are1e ha fun v hv=>isRef hv fun t=>g a t h
   | cons _ _=>exact no h
  | _=>exact no h
@[elab_as_elim] theorem aII {F:Int→Int→Res} (h:(match args with | [.int a,.int b]=>F a b | _=>none)=some z) (ha:Are ρ n args vs) (g:∀ a b t t',F a b=some z→P [.int a t,.int b t']):P vs:=by
 cases args with
 | nil=>exact no h
 | cons a l=>cases a with
  | int a=>cases l with
   | nil=>exact no h
   | cons b l=>cases b with
    | int b=>cases l with
     | nil=>exact are2e ha fun v u hv hu=>isInt hv fun t=>isInt hu fun t'=>g a b t t' h
     | cons _ _=>exact no h
    | _=>exact no h
  | _=>exact no h
@[elab_as_elim] theorem aSS {F:Str→Str→Res} (h:(match args with | [.str a,.str b]=>F a b | _=>none)=some z) (ha:Are ρ n args vs) (g:∀ a b t t',F a b=some z→P [.str a t,.str b t']):P vs:=by
 cases args with
 | nil=>exact no h
 | cons a l=>cases a with
  | str a=>cases l with
   | nil=>exact no h
   | cons b l=>cases b with
    | str b=>cases l with
     | nil=>exact are2e ha fun v u hv hu=>isStr hv fun t=>isStr hu fun t'=>g a b t t' h
     | cons _ _=>exact no h
    | _=>exact no h
  | _=>exact no h
@[elab_as_elim] theorem aSR {F:Str→Nat→Res} (h:(match args with | [.str a,.ref b]=>F a b | _=>none)=some z) (ha:Are ρ n args vs) (g:∀ a b t,F a b=some z→P [.str a t,.ref (ρ.a b)]):P vs:=by
 cases args with
 | nil=>exact no h
 | cons a l=>cases a with
  | str a=>cases l with
   | nil=>exact no h
   | cons b l=>cases b with
    | ref b=>cases l with
     | nil=>exact are2e ha fun v u hv hu=>isStr hv fun t=>isRef hu fun u0=>g a b t h
     | cons _ _=>exact no h
    | _=>exact no h
  | _=>exact no h
@[elab_as_elim] theorem aRR {F:Nat→Nat→Res} (h:(match args with | [.ref a,.ref b]=>F a b | _=>none)=some z) (ha:Are ρ n args vs) (g:∀ a b,b<n→F a b=some z→P [.ref (ρ.a a),.ref (ρ.a b)]):P vs:=by
 cases args with
 | nil=>exact no h
 | cons a l=>cases a with
  | ref a=>cases l with
   | nil=>exact no h
   | cons b l=>cases b with
    | ref b=>cases l with
     | nil=>exact are2e ha fun v u hv hu=>isRef hv fun u0=>isRef hu fun q=>g a b q h
     | cons _ _=>exact no h
    | _=>exact no h
  | _=>exact no h
@[elab_as_elim] theorem aRx {F:Nat→MV→Res} (h:(match args with | [.ref a,b]=>F a b | _=>none)=some z) (ha:Are ρ n args vs) (g:∀ a b u,b.Is ρ n u→F a b=some z→P [.ref (ρ.a a),u]):P vs:=by
 cases args with
 | nil=>exact no h
 | cons a l=>cases a with
  | ref a=>cases l with
   | nil=>exact no h
   | cons b l=>cases l with
    | nil=>exact are2e ha fun v u hv hu=>isRef hv fun u0=>g a b u hu h
    | cons _ _=>exact no h
  | _=>exact no h
end
theorem Z8c (h:XW y=true):(y.length==0)=false:=by
 (first | delta XW at h | unfold XW at h)
 simp only [not_eq_true',decide_eq_false_iff_not] at h;exact beq_false_of_ne h
theorem ZfT {G:Prop}{o:Option MObj}(h:(match o,e,b with
   | some (.dict es),some fs,false=>(match ble (es.length+fs.length) 1000 with | true=>some (Out.v .none,st.put i (.dict (putAll fs es))) | false=>none)
   | _,_,_=>none)=some z) (g:∀ es fs,o=some (.dict es)→e=some fs→b=false→ble (es.length+fs.length) 1000=true→some (Out.v .none,st.put i (.dict (putAll fs es)))=some z→G):G:=by
 cases o with
 | none=>exact no h
 | some o=>cases o with
  | dict es=>cases e with
   | none=>exact no h
   | some fs=>cases b with
    | true=>exact no h
    | false=>exact bT h fun hz h=>g es fs rfl rfl rfl hz h
  | _=>exact no h
theorem Zbk (C:c.Ok)(h:JI T c.ro b args st=some (.v x,st'))(rm:Zg c A lev)(R:Rel c ρ st s)(ha:Are ρ st.n args vs) :
  wpAny (model c.prog c.w) A (call b.val vs) (PV c ρ st.n st' x) E s:=by
 induction b using Bi.casesOn with
 | len=>exact Zed (T:=T) R h ha
 | abs=>exact aI h ha fun a t h=>vE h (Zdv R)
 | max=>exact aII h ha fun a b t t' h=>vE h (Ze7 rm.hh R)
 | min=>exact aII h ha fun a b t t' h=>vE h (ZcK rm.hh R)
 | all=>exact aR h ha fun i u0 h=>QD h fun xs hr h=>ZcA h fun b hb h=>vE h (Zd9 rm.hh R hr hb)
 | range =>
  cases args with
  | nil=>exact no h
  | cons a l=>cases a with
   | int a=>cases l with
    | nil=>exact are1e ha fun v hv=>isInt hv fun t=>alE h (call_range_1 (Z5E R C trivial _))
    | cons b l=>cases b with
     | int b=>cases l with
      | nil=>exact are2e ha fun v u hv hu=>isInt hv fun t=>isInt hu fun t'=>alE h (call_range_2 (Z5E R C trivial _))
      | cons d l=>cases d with
       | int d=>cases l with
        | nil=>exact are3e ha fun v u w hv hu hw=>isInt hv fun t=>isInt hu fun t'=>isInt hw fun t''=>bFF h fun h0 hp h=>alE h (call_range_3 (of_decide_eq_false h0) (Z5E R C trivial _) (.inl hp))
        | cons _ _=>exact no h
       | _=>exact no h
     | _=>exact no h
   | _=>exact no h
 | int =>
  cases args with
  | nil=>exact no h
  | cons a l=>cases a with
   | int a=>cases l with
    | nil=>exact are1e ha fun v hv=>isInt hv fun t=>vE h (call_int_int (Z7.here R ⟨_,rfl⟩))
    | cons _ _=>exact no h
   | bool a=>cases l with
    | nil=>exact are1e ha fun v hv=>isBool hv (vE h (call_int_bool (Z7.here (R.toks _) ⟨_,rfl⟩)))
    | cons _ _=>exact no h
   | str a=>cases l with
    | nil=>exact are1e ha fun v hv=>isStr hv fun t=>ZfE h fun i hi h=>vE h (bT hi fun hz hi=>KIN.call_text hi (W06 hz) (Z7.here (R.toks _) ⟨_,rfl⟩))
    | cons _ _=>exact no h
   | _=>exact no h
 | str=>exact aI h ha fun a t h=>bT h fun hz h=>vE h (P.str_of_int (W06 hz) (Z7.here (R.toks _) ⟨_,rfl⟩))
 | dict =>
  refine aR h ha fun i hi h=>ZfG h (fun es hr h=>bT h fun hz h=>alE h ?_) fun es j hr h=>bT h fun hz h=>alE h ?_
  ·exact Z50 C R trivial (Xi hr) ⟨hi,rfl⟩ (W06 hz)
  ·exact Z50 C R trivial (Z0F hr) ⟨hi,rfl⟩ (W06 hz)
 | enumerate=>exact aR h ha fun i hi h=>QD h fun xs hr h=>vE h (ZbQ C R hr)
 | strip=>exact aS h ha fun a t h=>bT h fun hz h=>vE h (Zau R hz)
 | split =>
  refine aSS h ha fun a b t t' h=>bTT h fun h1 h2 h=>alE h ?_;have h1:=W0h h1;exact Z9E C R trivial h2 (Z8c h1.1) (W06 h1.2)
 | lower=>exact aS h ha fun a t h=>bF' h fun hz h=>vE h (Z9Y R hz)
 | endswith=>exact aSS h ha fun a b t t' h=>vE h (ZbH R)
 | join=>exact aSR h ha fun a i t h=>QD h fun xs hr h=>Zg6 h fun ys hs h=>bT h fun hok h=>vE h (Zcj R hr hs hok)
 | index =>
  refine aSS h ha fun a b t t' h=>ZfE h fun k hk h=>vE h ?_;have hk:(match Builtin.Str.occurrences a b 0 a.length 1 with | i::_=>some (i:Int) | []=>none)=some k:=hk
  cases ho:Builtin.Str.occurrences a b 0 a.length 1 with
  | nil=>rw [ho] at hk;exact no hk
  | cons i l=>rw [ho] at hk;exact sE hk (Zaw R ho)
 | append=>exact aRx h ha fun i y u hu h=>QD h fun xs hg h=>bT h fun hz h=>vE h (Z4x R hg (W06 hz) hu fun s1 R1=>⟨ρ,Ag.refl _ _,W04 _,R1,rfl⟩)
 | get =>
  cases args with
  | nil=>exact no h
  | cons a l=>cases a with
   | ref i=>cases l with
    | nil=>exact no h
    | cons b l=>cases b with
     | str k=>cases l with
      | nil=>exact are2e ha fun v u hv hu=>isStr hu fun t=>ZfH h fun es he h=>vE h (Zby C R he hv)
      | cons d l=>cases l with
       | nil=>exact are3e ha fun v u w hv hu hw=>isStr hu fun t=>ZfH h fun es he h=>vE h (Zcn C R he hv hw)
       | cons _ _=>exact no h
     | _=>exact no h
   | _=>exact no h
 | update =>
  refine aRR h ha fun i j hj h=>ZfT h fun es fs hg he hij hz h=>vE h ?_;exact Z8N C R hg he ⟨hj,rfl⟩ (fun q=>ZdX R hg he hij (Value.ref.inj q)) (W06 hz)
end
section
variable {c:Cfg}{T:Tab}{ρ:Rho}{st st' st1 st2 st3:St}{s:Shared}{A:Around}{E:Value→Shared→Prop}{ξ:Z3}{env:Env}
theorem Jp (h:Z0 c T (.tst e ξ) st (.b a) st1)(r:Zg c A ξ.lev)(e0:Zc ρ st.n ξ env)(R:Rel c ρ st s)
  (k:∀ s1 ρ1,Ag ρ ρ1 st.n→st.n≤st1.n→Rel c ρ1 st1 s1→Zc ρ1 st1.n ξ env→Q a s1):wpAny (model c.prog c.w) A (isTrue e env (eval e env)) Q E s :=
 wpAny_mono (h A ρ env s E r e0 R) (fun v s1 z9=>xEAAA z9 fun ρ1 g hn R1 hv=>hv▸k s1 ρ1 g hn R1 (e0.mono g hn)) fun u0 u0 z=>z
theorem us_exs (hs:es.any Zq=false)(h:Z0 c T (.exs es ξ) st (.vs a) st1)(r:Zg c A ξ.lev)(e0:Zc ρ st.n ξ env)(R:Rel c ρ st s)
  (k:∀ v s1 ρ1,Ag ρ ρ1 st.n→st.n≤st1.n→Rel c ρ1 st1 s1→Are ρ1 st1.n a v→Zc ρ1 st1.n ξ env→Q v s1):wpAny (model c.prog c.w) A (spliced (backTo pos (starEach es env))) Q E s :=
 wpAny_mono (h hs A ρ env s E pos r e0 R) (fun v s1 z9=>xEAAA z9 fun ρ1 g hn R1 hv=>k v s1 ρ1 g hn R1 hv (e0.mono g hn)) fun u0 u0 z=>z
theorem Jb (h:Z0 c T (.sts l ξ) st o st1)(r:Zg c A ξ.lev)(e0:Zc ρ st.n ξ env)(R:Rel c ρ st s)
  (k:∀ f s1 ρ1,Ag ρ ρ1 st.n→st.n≤st1.n→Rel c ρ1 st1 s1→Qd ρ1 st1.n o f→Zc ρ1 st1.n ξ env→Q f s1):wpAny (model c.prog c.w) A (execs l env) Q E s :=
 wpAny_mono (h A ρ env s E r e0 R) (fun v s1 z9=>xEAAA z9 fun ρ1 g hn R1 hv=>k v s1 ρ1 g hn R1 hv (e0.mono g hn)) fun u0 u0 z=>z
theorem Zan (h:Z0 c T (.st l ξ) st o st1)(r:Zg c A ξ.lev)(e0:Zc ρ st.n ξ env)(R:Rel c ρ st s)
  (k:∀ f s1 ρ1,Ag ρ ρ1 st.n→st.n≤st1.n→Rel c ρ1 st1 s1→Qd ρ1 st1.n o f→Zc ρ1 st1.n ξ env→Q f s1):wpAny (model c.prog c.w) A (exec l env) Q E s :=
 wpAny_mono (h A ρ env s E r e0 R) (fun v s1 z9=>xEAAA z9 fun ρ1 g hn R1 hv=>k v s1 ρ1 g hn R1 hv (e0.mono g hn)) fun u0 u0 z=>z
theorem Xl (h:Z0 c T (.asg t x ξ) st .u st1)(r:Zg c A ξ.lev)(e0:Zc ρ st.n ξ env)(R:Rel c ρ st s)(hv:x.Is ρ st.n v)
  (k:∀ s1 ρ1,Ag ρ ρ1 st.n→st.n≤st1.n→Rel c ρ1 st1 s1→Zc ρ1 st1.n ξ env→Q () s1):wpAny (model c.prog c.w) A (assign t env v) Q E s :=
 wpAny_mono (h A ρ env s E v r e0 R hv) (fun v s1 z9=>xEAAA z9 fun ρ1 g hn R1 u0=>k s1 ρ1 g hn R1 (e0.mono g hn)) fun u0 u0 z=>z
theorem Z8p (h:Z0 c T (.call f args lev) st (.v x) st1)(r:Zg c A lev)(R:Rel c ρ st s)
  (hf:f.Is ρ st.n fv) (ha:Are ρ st.n args vs) (k:∀ v s1 ρ1,Ag ρ ρ1 st.n→st.n≤st1.n→Rel c ρ1 st1 s1→x.Is ρ1 st1.n v→Q v s1):wpAny (model c.prog c.w) A (call fv vs) Q E s :=
 wpAny_mono (h A ρ s E fv vs r R hf ha) (fun v s1 z9=>xEAAA z9 fun ρ1 g hn R1 hv=>k v s1 ρ1 g hn R1 hv) fun u0 u0 z=>z
theorem Yl (h:XZ k=some v):Z0 c T (.ex (.Constant k kd pos) ξ) st (.v v) st:=by
 intro A ρ env s E r e0 R;rw [eval_Constant];exact Z9s h R
theorem Z6O (W:Z5 c T)(hd:decide (x=dbg)=false)(h:Yb T c.ro ξ x st=some v):Z0 c T (.ex (.Name x pos) ξ) st (.v v) st:=by
 intro A ρ env s E r e0 R;exact wpAny_Name (Z4q W.X h R e0 fun u hu=>Z7.here R hu) (by rw [Q1]; exact hd)
theorem JK (W:Z5 c T)(h1:Z0 c T (.ex l ξ) st (.v a) st1)(h2:Z0 c T (.ex r' ξ) st1 (.v b) st2)(h:XT c.ro op a b st2=some (.v x,st')) :
  Z0 c T (.ex (.BinOp l op r' pos) ξ) st (.v x) st':=by
 intro A ρ env s E r e0 R;refine wpAny_BinOp (Zr h1 r e0 R fun va s1 ρ1 g1 n1 R1 ha e1=>Zr h2 r e1 R1 fun vb s2 ρ2 g2 n2 R2 hb e2=>?_);exact wpAny_mono (Za3 W.C h R2 (ha.mono g2 n2) hb) (fun v s3 z=>(z.trans g2 n2).trans g1 n1) fun u0 u0 z=>z
theorem Zd3 (h1:Z0 c T (.ex x ξ) st (.v (.int a)) st1):Z0 c T (.ex (.UnaryOp .USub x pos) ξ) st (.v (.int (-a))) st1:=by
 intro A ρ env s E r e0 R;refine wpAny_UnaryOp (Zr h1 r e0 R fun va s1 ρ1 g1 n1 R1 ha e1=>?_)
 (refine xE ha ?_;(try clear ha);intro t o0;subst o0)
 exact P.neg_int ((Z7.here (R1.toks _) ⟨_,rfl⟩).trans g1 n1)
theorem ZbU (W:Z5 c T)(hs:ZI r'=false)(h1:Z0 c T (.ex l ξ) st (.v a) st1)(h2:Z0 c T (.ex r' ξ) st1 (.v b) st2)(h:ZY T c.ro st2 op a b=some x) :
  Z0 c T (.ex (.Compare l [op] [r'] pos) ξ) st (.v (.bool x)) st2:=by
 intro A ρ env s E r e0 R;refine wpAny_Compare1 (Zr h1 r e0 R fun va s1 ρ1 g1 n1 R1 ha e1=>Zr h2 r e1 R1 fun vb s2 ρ2 g2 n2 R2 hb e2=>?_) (Z3q op hs);exact Z2H W.X W.C R2 r h (ha.mono g2 n2) hb fun t=>((Z7.here (P:=fun ρ'=>(MV.bool x).Is ρ' st2.n (.bool x)) (R2.toks t) rfl).trans g2 n2).trans g1 n1
theorem Z7U (h1:Z0 c T (.tst t ξ) st (.b d) st1)(h2:Z0 c T (.ex (if d then b else o) ξ) st1 (.v x) st'):Z0 c T (.ex (.IfExp t b o pos) ξ) st (.v x) st':=by
 intro A ρ env s E r e0 R;refine wpAny_IfExp (Jp h1 r e0 R fun s1 ρ1 g1 n1 R1 e1=>?_)
 cases d with
 | true=>rw [if_pos rfl]; exact Zr h2 r e1 R1 fun v s2 ρ2 g2 n2 R2 hv u0=>⟨ρ2,g1.trans g2 n1,W01 n1 n2,R2,hv⟩
 | false=>rw [if_neg (by decide)]; exact Zr h2 r e1 R1 fun v s2 ρ2 g2 n2 R2 hv u0=>⟨ρ2,g1.trans g2 n1,W01 n1 n2,R2,hv⟩
theorem Z8r (W:Z5 c T)(hs:es.any Zq=false)(h1:Z0 c T (.exs es ξ) st (.vs xs) st1)(hz:xs.length≤1000000) :
  Z0 c T (.ex (.Tuple es k pos) ξ) st (.v (.ref st1.n)) (st1.push (.tup xs)):=by
 intro A ρ env s E r e0 R;refine wpAny_Tuple (us_exs hs h1 r e0 R fun vs s1 ρ1 g1 n1 R1 ha e1=>?_);refine ⟨?_,(Zbi R1 W.C trivial 0 (by simpa using ha) s1.toks _ rfl).trans g1 n1⟩;rw [ha.length];unfold sizeLine;omega
theorem Z8m (W:Z5 c T)(hs:es.any Zq=false)(h1:Z0 c T (.exs es ξ) st (.vs xs) st1)(hz:xs.length≤1000000) :
  Z0 c T (.ex (.List es pos) ξ) st (.v (.ref st1.n)) (st1.push (.list xs)):=by
 intro A ρ env s E r e0 R;refine wpAny_List (us_exs hs h1 r e0 R fun vs s1 ρ1 g1 n1 R1 ha e1=>?_);refine ⟨?_,(Z2B R1 W.C trivial 0 (by simpa using ha) s1.toks _ rfl).trans g1 n1⟩;rw [ha.length];unfold sizeLine;omega
theorem ZaK (W:Z5 c T)(hb:JZ v=true)(h1:Z0 c T (.ex v ξ) st (.v o) st1)(h:XU T c.ro st1 o x=some y):Z0 c T (.ex (.Attribute v x pos) ξ) st (.v y) st1:=by
 intro A ρ env s E r e0 R;rw [arm_eval_Attribute];refine W0j (Z8t hb (Zr h1 r e0 R fun vo s1 ρ1 g1 n1 R1 ho e1=>?_));refine W0j (W0l (W0j (wpAny_holding (Z7u W.X W.Y W.C R1 h ho fun u t hu=>?_))));exact W0j (wpAny_letTemporaryGo (W0k ((Z7.here (R1.toks t) hu).trans g1 n1)))
theorem Q3 (W:Z5 c T)(_hi:XX i=false)(h1:Z0 c T (.ex v ξ) st (.v o) st1)(h2:Z0 c T (.ex i ξ) st1 (.v j) st2)(h:YD T c.ro st2 o j=some y) :
  Z0 c T (.ex (.Subscript v i pos) ξ) st (.v y) st2:=by
 intro A ρ env s E r e0 R;refine Subscript_ (Zr h1 r e0 R fun vo s1 ρ1 g1 n1 R1 ho e1=>Zr h2 r e1 R1 fun vi s2 ρ2 g2 n2 R2 hi e2=>?_)
 (refine xA (Z6S W.X W.C R2 h (ho.mono g2 n2) hi (A:=A) (E:=E) (Q:=fun v s'=>Z7 c ρ st.n st2 s' fun ρ'=>y.Is ρ' st2.n v) fun u t hu=>((Z7.here (P:=fun ρ'=>y.Is ρ' st2.n u) (R2.toks t) hu).trans g2 n2).trans g1 n1) ?_;intro o0 hw;obtain ⟨Ty,id,hT,hl⟩:=o0)
 exact Z68 hT hl hw
theorem Z58 (W:Z5 c T)(hf:Qz f=false)(hs:args.any Zq=false)(hfun:YS T fv=true)
  (h1:Z0 c T (.ex f ξ) st (.v fv) st1) (h2:Z0 c T (.exs args ξ) st1 (.vs vs) st2) (h:Z0 c T (.call fv vs ξ.lev) st2 (.v y) st'):Z0 c T (.ex (.Call f args [] pos) ξ) st (.v y) st':=by
 intro A ρ env s E r e0 R;have he:eval (.Call f args [] pos) env=(do callWith pos (← eval f env) [] (backTo pos (starEach args env)) []):=by induction f using PySem.Expr.casesOn<;>first | rfl | cases hf
 rw [he];refine W0j (Zr h1 r e0 R fun va s1 ρ1 g1 n1 R1 ha e1=>Z0I hs (Z5y W.X W.Y hfun ha) (us_exs hs h2 r e1 R1 fun us s2 ρ2 g2 n2 R2 hu e2=>⟨R2.kin W.C,?_⟩));exact Z8p h r R2 (ha.mono g2 n2) hu fun v s3 ρ3 g3 n3 R3 hv=>⟨ρ3,(g1.trans g2 n1).trans g3 (W01 n1 n2),W01 (W01 n1 n2) n3,R3,hv⟩
theorem Zb3 (W:Z5 c T)(hb:JZ o=true)(hs:args.any Zq=false)(hl:beq ap.endLine pos.line=true)(hn:ble args.length 8=true)
  (h1:Z0 c T (.ex o ξ) st (.v ov) st1) (hm:Qx T c.ro st1 ov x=some f) (hfun:YS T f=true) (h2:Z0 c T (.exs args ξ) st1 (.vs vs) st2) (h:Z0 c T (.call f (ov::vs) ξ.lev) st2 (.v y) st') :
  Z0 c T (.ex (.Call (.Attribute o x ap) args [] pos) ξ) st (.v y) st':=by
 intro A ρ env s E r e0 R;rw [arm_eval_Call];refine W0j (Z8t hb (Zr h1 r e0 R fun vo s1 ρ1 g1 n1 R1 ho e1=>W0j (W0l ?_)));have hform:methodCallForm (args.length+([]:List Keyword).length) (backTo pos (starEach args env)) (backToKw pos (keywordEach [] env))=true:=by
  unfold methodCallForm;have h8:=W06 hn;have ha:(backTo pos (starEach args env)).all (fun x=>!x.1)=true:=by
   have:=Z2e (env:=env) (pos:=pos) hs
   rw [all_eq_true];intro z hz;rw [List.any_eq_false] at this
   simpa using this z hz
  rw [ha];show ((true&&decide (args.length+0+0<30))=true);simp only [Bool.true_and,decide_eq_true_eq];omega
 unfold methodCall;rw [hform];refine W0j (wpAny_holding ?_);unfold calleeOf;rw [if_pos rfl];refine Zbd W.Y W.C R1 hm ho fun fv hfv=>?_;unfold methodCallPos;have hline:(!true||ap.endLine==pos.line)=true:=by
  rw [eq_of_beq_eq_true hl]; simp
 rw [if_pos hline];refine W0j (W0k ?_);refine Z0I (first:=[vo]) hs (Z5y W.X W.Y hfun hfv) (us_exs hs h2 r e1 R1 fun us s2 ρ2 g2 n2 R2 hu e2=>⟨R2.kin W.C,?_⟩);exact Z8p h r R2 (hfv.mono g2 n2) ⟨ho.mono g2 n2,hu⟩ fun v s3 ρ3 g3 n3 R3 hv=>⟨ρ3,(g1.trans g2 n1).trans g3 (W01 n1 n2),W01 (W01 n1 n2) n3,R3,hv⟩
theorem Z8n:Z0 c T (.exs [] ξ) st (.vs []) st:=by
 intro hs A ρ env s E pos r e0 R;exact spliced_none (Z7.here R trivial)
theorem Z8x (h3:Z0 c T (.ex e ξ) st (.v x) st1)(h4:Z0 c T (.exs rest ξ) st1 (.vs xs) st2):Z0 c T (.exs (e::rest) ξ) st (.vs (x::xs)) st2:=by
 intro hs A ρ env s E pos r e0 R;obtain ⟨h1,h2⟩:=Z21 hs;exact spliced_more (Zr h3 r e0 R fun v s1 ρ1 g1 n1 R1 hv e1=>us_exs h2 h4 r e1 R1 fun vs s2 ρ2 g2 n2 R2 hvs e2=>⟨ρ2,g1.trans g2 n1,W01 n1 n2,R2,hv.mono g2 n2,hvs⟩) (Z0D h1)
theorem Z3E (W:Z5 c T)(hs:ZI r'=false)(h1:Z0 c T (.ex l ξ) st (.v a) st1)(h2:Z0 c T (.ex r' ξ) st1 (.v b) st2)(h:ZY T c.ro st2 op a b=some x) :
  Z0 c T (.tst (.Compare l [op] [r'] pos) ξ) st (.b x) st2:=by
 intro A ρ env s E r e0 R;refine wpAny_isTrue_Compare1 (Zr h1 r e0 R fun va s1 ρ1 g1 n1 R1 ha e1=>Zr h2 r e1 R1 fun vb s2 ρ2 g2 n2 R2 hb e2=>?_) (Z3q _ hs);exact Z2H W.X W.C R2 r h (ha.mono g2 n2) hb fun t=>wpAny_truthy_bool (((Z7.here (P:=fun u0=>x=x) (R2.toks t) rfl).trans g2 n2).trans g1 n1)
theorem Z98 (h1:Z0 c T (.tst x ξ) st (.b b) st1):Z0 c T (.tst (.UnaryOp .Not x pos) ξ) st (.b (!b)) st1:=by
 intro A ρ env s E r e0 R;exact isTrue_not (Jp h1 r e0 R fun s1 ρ1 g1 n1 R1 e1=>⟨ρ1,g1,n1,R1,rfl⟩)
theorem Z8S (hp:Zhk e=true)(h1:Z0 c T (.ex e ξ) st (.v (.bool b)) st1):Z0 c T (.tst e ξ) st (.b b) st1:=by
 intro A ρ env s E r e0 R;refine isTrue_plain (Zr h1 r e0 R fun va s1 ρ1 g1 n1 R1 ha e1=>?_) ?_
 ·cases ha
  exact wpAny_truthy_bool ⟨ρ1,g1,n1,R1,rfl⟩
 ·induction e using PySem.Expr.casesOn with
  | UnaryOp op x p=>induction op using PySem.UnaryOp.casesOn<;>first | rfl | cases hp
  | _=>first | rfl | cases hp
theorem Z30 (h:Zx ξ x v st (fun st=>some (.u,st))=some (.u,st')):Z0 c T (.asg (.Name x pos) v ξ) st .u st':=by
 intro A ρ env s E u r e0 R hv;refine wpAny_assign_Name (Z1j h R e0 hv fun st1 s1 hk hn R1=>?_)
 cases hk
 exact ⟨ρ,Ag.refl _ _,W0b hn.symm,R1,trivial⟩
theorem Z8q (W:Z5 c T)(h1:Z0 c T (.ex o ξ) st (.v ov) st1)(h:ZhI T st1 ov y x (fun st=>some (.u,st))=some (.u,st')):Z0 c T (.asg (.Attribute o y pos) x ξ) st .u st':=by
 intro A ρ env s E v r e0 R hv;rw [assign_Attribute];refine W0j (wpAny_holding (Zr h1 r e0 R fun vo s1 ρ1 g1 n1 R1 ho e1=>W0j (W0l (W0j (wpAny_holding ?_)))));refine Z44 W.Y W.C R1 h ho (hv.mono g1 n1) fun st2 s2 hk hn R2=>?_
 cases hk
 exact wpAny_release ⟨ρ1,g1,by rw [hn]; exact n1,R2,trivial⟩
theorem Z2z (W:Z5 c T)(h1:Z0 c T (.ex o ξ) st (.v ov) st1)(h2:Z0 c T (.ex i ξ) st1 (.v iv) st2)(h:Xd st2 ov iv x (fun st=>some (.u,st))=some (.u,st')) :
  Z0 c T (.asg (.Subscript o i pos) x ξ) st .u st':=by
 intro A ρ env s E v r e0 R hv;rw [assign_Subscript];refine W0j (wpAny_holding (Zr h1 r e0 R fun vo s1 ρ1 g1 n1 R1 ho e1=>W0j (wpAny_holding (Zr h2 r e1 R1 fun vi s2 ρ2 g2 n2 R2 hi e2=>W0j (W0l (W0j (wpAny_holding ?_)))))));refine Z6W W.C R2 h (ho.mono g2 n2) hi ((hv.mono g1 n1).mono g2 n2) fun st3 s3 hk hn R3=>?_
 cases hk
 exact wpAny_release ⟨ρ2,g1.trans g2 n1,by rw [hn]; exact W01 n1 n2,R3,trivial⟩
theorem Z6C (W:Z5 c T)(hs:ts.any Zq=false)(hx:YE T c.ro st x=some xs)(hl:xs.length=ts.length)(h1:Z0 c T (.asgs ts xs ξ) st .u st') :
  Z0 c T (.asg (.Tuple ts k pos) x ξ) st .u st':=by
 intro A ρ env s E v r e0 R hv;show wpAny _ _ (standAt _ >>= fun u0=>unpack v (assignEach _ env)) _ _ _;refine W0j (W0l ?_)
 (refine xE (Z8l hx hv) ?_;intro a o0;subst o0)
 obtain ⟨us,ep,e1,e2⟩:=Z4c W.X W.C R hx hv;have ht:s.heap.IsTuple a us:=⟨_,e1,rfl,_,rfl⟩;have hlen:=e2.length;simp only [length_toList] at hlen;refine wpAny_unpack_tuple r.hh ht (by rw [Z5W,← hl,hlen]) (Z57 hs) fun h' he=>?_;have R1:Rel c ρ st { s with heap:=h' }:=R.more (h':=h') s.toks (fun b o hb=>he b o (W05 (lt_size hb)) hb);exact h1 hs A ρ env _ E _ r e0 R1 e2
theorem Z8B:Z0 c T (.asgs [] [] ξ) st .u st:=by
 intro hs A ρ env s E vs r e0 R ha
 cases vs with
 | nil=>exact W0k ⟨ρ,Ag.refl _ _,W04 _,R,trivial⟩
 | cons _ _=>exact ha.elim
theorem ZaY (h1:Z0 c T (.asg t x ξ) st .u st1)(h:Z0 c T (.asgs ts xs ξ) st1 .u st2):Z0 c T (.asgs (t::ts) (x::xs) ξ) st .u st2:=by
 intro hs A ρ env s E vs r e0 R ha;obtain ⟨s1,s2⟩:=Z21 hs
 cases vs with
 | nil=>exact ha.elim
 | cons v vs =>
  have he:(assignEach (t::ts) env).map (·.2)=assign t env::(assignEach ts env).map (·.2):=by induction t using PySem.Expr.casesOn<;>first | rfl | cases s1
  rw [he];show wpAny _ _ (holding vs (assign t env v) >>= fun u0=>assignInOrder ((assignEach ts env).map (·.2)) vs) _ _ _;refine W0j (wpAny_holding (Xl h1 r e0 R ha.1 fun s3 ρ1 g1 n1 R1 e1=>?_));exact wpAny_mono (h s2 A ρ1 env s3 E vs r e1 R1 (ha.2.mono g1 n1)) (fun u0 s' z=>z.trans g1 n1) fun u0 u0 z=>z
theorem Zb7 (hc:ZjR v=true)(hfn:Zi ξ.sc.kind=true)(h1:Z0 c T (.ex v ξ) st (.v x) st1):Z0 c T (.st (.Expr v pos) ξ) st .nx st1:=by
 intro A ρ env s E r e0 R;rw [exec_Expr _ _ _ (Z7A hfn e0) (by induction v using PySem.Expr.casesOn<;>first | rfl | cases hc)];exact W0j (W0l (W0j (Zr h1 r e0 R fun u s1 ρ1 g1 n1 R1 hu e1=>wpAny_dropValue ⟨ρ1,g1,n1,R1,rfl⟩)))
theorem Z8R (h1:Z0 c T (.ex v ξ) st (.v x) st1):Z0 c T (.st (.Return (some v) pos) ξ) st (.ret x) st1:=by
 intro A ρ env s E r e0 R;exact wpAny_Return_some (Zr h1 r e0 R fun u s1 ρ1 g1 n1 R1 hu e1=>⟨ρ1,g1,n1,R1,u,rfl,hu⟩)
theorem Zcz (h1:Z0 c T (.tst t ξ) st (.b d) st1)(h2:Z0 c T (.sts (if d then b else o') ξ) st1 o st'):Z0 c T (.st (.If t b o' pos) ξ) st o st':=by
 intro A ρ env s E r e0 R;refine wpAny_If (Jp h1 r e0 R fun s1 ρ1 g1 n1 R1 e1=>?_)
 cases d with
 | true=>rw [if_pos rfl]; exact Jb h2 r e1 R1 fun f s2 ρ2 g2 n2 R2 hf e2=>⟨ρ2,g1.trans g2 n1,W01 n1 n2,R2,hf⟩
 | false=>rw [if_neg (by decide)]; exact Jb h2 r e1 R1 fun f s2 ρ2 g2 n2 R2 hf e2=>⟨ρ2,g1.trans g2 n1,W01 n1 n2,R2,hf⟩
theorem Z7T (h:Z0 c T (.whl t b ξ) st o st'):Z0 c T (.st (.While t b [] pos) ξ) st o st':=by
 intro A ρ env s E r e0 R;exact wpAny_While (h A ρ env s _ r e0 R fun f s' z=>z)
theorem ZbT (W:Z5 c T)(hs:ZI it=false)(h1:Z0 c T (.ex it ξ) st (.v x) st1)(h2:ZT T c.ro st1 x (fun i st=>some (.v (.ref i),st))=some (.v (.ref i),st2))
  (h:Z0 c T (.forl t i b ξ) st2 o st'):Z0 c T (.st (.For t it b [] pos) ξ) st o st':=by
 intro A ρ env s E r e0 R;refine wpAny_For (Zr h1 r e0 R fun v s1 ρ1 g1 n1 R1 hv e1=>Z24 W.X W.C R1 h2 hv fun ρ2 i' st2' s2 hk hi g2 n2 R2=>?_) (Z2J hs)
 cases hk
 exact h A ρ2 env s2 _ r (e1.mono g2 n2) R2 hi fun f s' z=>(z.trans g2 n2).trans g1 n1
theorem Z1p (hg:Zjp t v=true)(h1:Z0 c T (.ex v ξ) st (.v x) st1)(h2:Z0 c T (.asg t x ξ) st1 .u st2):Z0 c T (.st (.Assign [t] v pos) ξ) st .nx st2:=by
 intro A ρ env s E r e0 R;obtain ⟨g1,g2,g3⟩:=Z78 (env:=env) (n:=pos.line) hg;exact Z3h g1 g2 (Zr h1 r e0 R fun u s1 ρ1 g1 n1 R1 hu e1=>Xl h2 r e1 R1 hu fun s2 ρ2 g2 n2 R2 e2=>⟨ρ2,g1.trans g2 n1,W01 n1 n2,R2,rfl⟩) g3
theorem Z2l (hfn:Zi ξ.sc.kind=true)(hh:JJ ξ x p vp sc.names=false)(h1:Z0 c T (.ex (.ListComp elt gens sc vp) ξ) st (.v v) st1)
  (h2:Z0 c T (.asg (.Name x p) v ξ) st1 .u st2):Z0 c T (.st (.Assign [.Name x p] (.ListComp elt gens sc vp) sp) ξ) st .nx st2:=by
 intro A ρ env s E r e0 R;exact Z3h (by rw [Z23 hfn e0,hh]) rfl (Zr h1 r e0 R fun u s1 ρ1 g1 n1 R1 hu e1=>Xl h2 r e1 R1 hu fun s2 ρ2 g2 n2 R2 e2=>⟨ρ2,g1.trans g2 n1,W01 n1 n2,R2,rfl⟩) rfl
theorem Z8C:Z0 c T (.sts [] ξ) st .nx st:=by
 intro A ρ env s E r e0 R;exact wpAny_execs_nil ⟨ρ,Ag.refl _ _,W04 _,R,rfl⟩
theorem QI (h1:Z0 c T (.st t ξ) st .nx st1)(h:Z0 c T (.sts l ξ) st1 o st'):Z0 c T (.sts (t::l) ξ) st o st':=by
 intro A ρ env s E r e0 R;refine wpAny_execs_cons (Zan h1 r e0 R fun f s1 ρ1 g1 n1 R1 hf e1=>?_)
 cases hf
 exact Jb h r e1 R1 fun f s2 ρ2 g2 n2 R2 hf e2=>⟨ρ2,g1.trans g2 n1,W01 n1 n2,R2,hf⟩
theorem Z5i (h1:Z0 c T (.st t ξ) st (.ret x) st1):Z0 c T (.sts (t::l) ξ) st (.ret x) st1:=by
 intro A ρ env s E r e0 R;refine wpAny_execs_cons (Zan h1 r e0 R fun f s1 ρ1 g1 n1 R1 hf e1=>?_)
 (refine xEA hf ?_;(try clear hf);intro v o0 hv;subst o0)
 exact ⟨ρ1,g1,n1,R1,v,rfl,hv⟩
theorem ZaX (h1:Z0 c T (.st t ξ) st o st1)(ho:o = .nx→l=[]):Z0 c T (.sts (t::l) ξ) st o st1:=by
 intro A ρ env s E r e0 R;refine wpAny_execs_cons (Zan h1 r e0 R fun f s1 ρ1 g1 n1 R1 hf e1=>?_)
 cases o with
 | nx =>
  cases hf
  rw [ho rfl];exact wpAny_execs_nil ⟨ρ1,g1,n1,R1,rfl⟩
 | ret x =>
  (refine xEA hf ?_;(try clear hf);intro v o0 hv;subst o0)
  exact ⟨ρ1,g1,n1,R1,v,rfl,hv⟩
 | _=>exact hf.elim
theorem Zb1 (h:Z0 c T (.bop op es ξ) st (.v v) st'):Z0 c T (.ex (.BoolOp op es pos) ξ) st (.v v) st':=by
 intro A ρ env s E r e0 R;rw [arm_eval_BoolOp];exact h A ρ env s E pos r e0 R
theorem Zbq (h:Z0 c T (.tsts op es ξ) st (.b b) st'):Z0 c T (.tst (.BoolOp op es pos) ξ) st (.b b) st':=fun A ρ env s E r e0 R=>wpAny_isTrue_BoolOp (h A ρ env s E r e0 R)
theorem ZaN (h:Z0 c T (.ex e ξ) st (.v v) st'):Z0 c T (.bop op [e] ξ) st (.v v) st':=fun u0 u0 u0 u0 u0 u0 r e0 R=>Zr h r e0 R fun u0 u0 ρ1 g1 n1 R1 hv u0=>⟨ρ1,g1,n1,R1,hv⟩
theorem Zdx (h1:Z0 c T (.ex e ξ) st (.v (.bool b)) st1)(h:(b==Jo op)=true→Z0 c T (.bop op (e'::l) ξ) st1 (.v v) st')(h':(b==Jo op)=false→v = .bool b∧st'=st1) :
  Z0 c T (.bop op (e::e'::l) ξ) st (.v v) st':=by
 intro A ρ env s E pos r e0 R;show wpAny _ _ (boolOp pos op (eval e env::eval e' env::evalEach l env)) _ _ _;refine W0j (Zr h1 r e0 R fun w s1 ρ1 g1 n1 R1 hv e1=>W0j (W0l (W0j (wpAny_holding ?_))));refine isBool hv (wpAny_truthy_bool ?_);have on:(b==Jo op)=true→wpAny (model c.prog c.w) A (boolOp pos op (evalEach (e'::l) env)) (PV c ρ st.n st' v) E s1 :=
  fun q=>wpAny_mono (h q A _ env _ E pos r e1 R1) (fun v s' z=>z.trans g1 n1) fun u0 u0 z=>z
 have out:(b==Jo op)=false→Z7 c ρ st.n st' s1 fun ρ'=>v.Is ρ' st'.n (.bool b):=fun q=>by
  (refine xA (h' q) ?_;intro o0 o1;subst o0;subst o1)
  exact ⟨ρ1,g1,n1,R1,rfl⟩
 induction op using PySem.BoolOp.casesOn<;>induction b using Bool.casesOn
 ·exact W0k (out rfl)
 ·exact on rfl
 ·exact on rfl
 ·exact W0k (out rfl)
theorem ZbZ:Z0 c T (.tsts op [] ξ) st (.b (Jo op)) st:=by
 intro A ρ env s E r e0 R
 induction op using PySem.BoolOp.casesOn
 ·exact wpAny_allTrue_And_nil (Z7.here R rfl)
 ·exact wpAny_allTrue_Or_nil (Z7.here R rfl)
theorem ZcU (h1:Z0 c T (.tst e ξ) st (.b b) st1)(h:(b==Jo op)=true→Z0 c T (.tsts op l ξ) st1 (.b v) st')(h':(b==Jo op)=false→v=b∧st'=st1):Z0 c T (.tsts op (e::l) ξ) st (.b v) st':=by
 intro A ρ env s E r e0 R;have on:∀ {s1:Shared} {ρ1:Rho},Ag ρ ρ1 st.n→st.n≤st1.n→Rel c ρ1 st1 s1→Zc ρ1 st1.n ξ env→(b==Jo op)=true→wpAny (model c.prog c.w) A (allTrue op l env) (PB c ρ st.n st' v) E s1 :=
  fun g1 n1 R1 e1 q=>wpAny_mono (h q A _ env _ E r e1 R1) (fun v s' z=>z.trans g1 n1) fun u0 u0 z=>z
 have out:∀ {s1:Shared} {ρ1:Rho},Ag ρ ρ1 st.n→st.n≤st1.n→Rel c ρ1 st1 s1→(b==Jo op)=false→Z7 c ρ st.n st' s1 fun u0=>b=v:=fun g1 n1 R1 q=>by
  (refine xA (h' q) ?_;intro o0 o1;subst o0;subst o1)
  exact ⟨_,g1,n1,R1,rfl⟩
 induction op using PySem.BoolOp.casesOn
 ·refine wpAny_allTrue_And_cons (Jp h1 r e0 R fun s1 ρ1 g1 n1 R1 e1=>?_)
  cases b with
  | true=>rw [if_pos rfl]; exact on g1 n1 R1 e1 rfl
  | false=>rw [if_neg Bool.false_ne_true]; exact out g1 n1 R1 rfl
 ·refine wpAny_allTrue_Or_cons (Jp h1 r e0 R fun s1 ρ1 g1 n1 R1 e1=>?_)
  cases b with
  | true=>rw [if_pos rfl]; exact out g1 n1 R1 rfl
  | false=>rw [if_neg Bool.false_ne_true]; exact on g1 n1 R1 e1 rfl
theorem Z6p (W:Z5 c T)(hs:ZI r2=false)(h1:Z0 c T (.ex l ξ) st (.v x) st1)(h2:Z0 c T (.ex r1 ξ) st1 (.v y) st2)(hc:ZY T c.ro st2 o1 x y=some d)
  (h:d=true→∃ z,Z0 c T (.ex r2 ξ) st2 (.v z) st'∧ZY T c.ro st' o2 y z=some b) (h':d=false→b=false∧st'=st2):Z0 c T (.tst (.Compare l [o1,o2] [r1,r2] pos) ξ) st (.b b) st':=by
 intro A ρ env s E r e0 R;refine isTrue_chain (Zr h1 r e0 R fun va s1 ρ1 g1 n1 R1 ha e1=>?_) (by show behindInMarks _ _=false;exact Z3q _ hs);refine W0j (wpAny_holding (Zr h2 r e1 R1 fun vb s2 ρ2 g2 n2 R2 hb e2=>W0j (W0l (W0j (wpAny_holding ?_)))));refine Z2H W.X W.C R2 r hc (ha.mono g2 n2) hb fun t=>W0j (wpAny_release (W0j (wpAny_holding (wpAny_truthy_bool ?_))))
 cases d with
 | false =>
  (refine xA (h' rfl) ?_;intro o0 o3;subst o0;subst o3)
  rw [if_neg Bool.false_ne_true];exact W0k (((Z7.here (P:=fun u0=>false=false) (R2.toks t) rfl).trans g2 n2).trans g1 n1)
 | true =>
  obtain ⟨z,h3,hc2⟩:=h rfl;rw [if_pos rfl];refine W0j (wpAny_holding (Zr h3 r e2 (R2.toks t) fun vd s3 ρ3 g3 n3 R3 hd e3=>W0j (W0l (W0j (wpAny_operateT ?_)))));exact Z2H W.X W.C R3 r hc2 (hb.mono g3 n3) hd fun t=>wpAny_holding (wpAny_truthy_bool ((((Z7.here (P:=fun u0=>b=b) (R3.toks t) rfl).trans g3 n3).trans g2 n2).trans g1 n1))
def Zkd (c:Cfg)(T:Tab)(e:Option Expr)(ξ:Z3)(st:St)(v:MV)(st':St):Prop:=match e with
 | none=>v = .none∧st'=st
 | some e=>Z0 c T (.ex e ξ) st (.v v) st'
theorem Z92 (h:Zkd c T e ξ st a st1)(r:Zg c A ξ.lev)(e0:Zc ρ st.n ξ env)(R:Rel c ρ st s)
  (k:∀ v s1 ρ1,Ag ρ ρ1 st.n→st.n≤st1.n→Rel c ρ1 st1 s1→a.Is ρ1 st1.n v→Zc ρ1 st1.n ξ env→Q v s1):wpAny (model c.prog c.w) A (evalPart e env) Q E s:=by
 cases e with
 | none=>(refine xA h ?_;(try clear h);intro o0 o1;subst o0;subst o1);exact W0k (k _ _ ρ (Ag.refl _ _) (W04 _) R rfl e0)
 | some e=>rw [evalPart_some]; exact Zr (T:=T) h r e0 R k
theorem Zco (W:Z5 c T)(h1:Z0 c T (.ex v ξ) st (.v o) st1)(h2:Zkd c T l ξ st1 a st2)(h3:Zkd c T u ξ st2 b st3)(h:ZjC c.ro st3 o a b=some (.v y,st')) :
  Z0 c T (.ex (.Subscript v (.Slice l u none p) pos) ξ) st (.v y) st':=by
 intro A ρ env s E r e0 R;refine Subscript_ (Zr h1 r e0 R fun vo s1 ρ1 g1 n1 R1 ho e1=>wpAny_Slice (Z92 h2 r e1 R1 fun va s2 ρ2 g2 n2 R2 ha e2=>Z92 h3 r e2 R2 fun vb s3 ρ3 g3 n3 R3 hb e3=>W0k ?_))
 (refine xA (Za0 (A:=A) (E:=E) W.C R3 h ((ho.mono g2 n2).mono g3 n3) (ha.mono g3 n3) hb rfl) ?_;intro o0 hw;obtain ⟨Ty,id,hT,hl⟩:=o0)
 exact Z68 hT hl (wpAny_mono hw (fun v s' z=>((z.trans g3 n3).trans g2 n2).trans g1 n1) fun u0 u0 z=>z)
theorem Zfz (h:Z0 c T (.sts b ξ) st o st'):Z0 c T (.st (.Try b (h0::hs) [] [] pos) ξ) st o st':=by
 intro A ρ env s E r e0 R;refine wpAny_Try_except (Jb h r e0 R fun f s2 ρ2 g2 n2 R2 hf e2=>?_)
 induction f using PySem.Flow.casesOn with
 | next=>exact wpAny_execs_nil ⟨ρ2,g2,n2,R2,hf⟩
 | _=>exact ⟨ρ2,g2,n2,R2,hf⟩
theorem ZcQ:Z0 c T (.st (.Return none pos) ξ) st (.ret .none) st:=fun u0 ρ u0 u0 u0 u0 u0 R=>wpAny_Return_none ⟨ρ,Ag.refl _ _,W04 _,R,_,rfl,rfl⟩
theorem Zf5 (W:Z5 c T)(h1:Z0 c T (.ex o' ξ) st (.v ov) st1)(ha:XU T c.ro st1 ov x=some (.int a))(h2:Z0 c T (.ex v ξ) st1 (.v (.int b)) st2)
  (h:ZhI T st2 ov x (.int (a+b)) (fun st=>some (.nx,st))=some (o,st')):Z0 c T (.st (.AugAssign (.Attribute o' x tp) .Add v pos) ξ) st o st':=by
 intro A ρ env s E r e0 R;refine wpAny_AugAssign_AttributeAny (Zr h1 r e0 R fun vo s1 ρ1 g1 n1 R1 ho e1=>Z7u W.X W.Y W.C R1 ha ho fun u t hu=>Zr h2 r e1 (R1.toks t) fun vb s2 ρ2 g2 n2 R2 hb e2=>?_);refine isInt hu fun t1=>isInt hb fun t2=>PyProof.Rows.iadd_int ?_;refine Z44 W.Y W.C (R2.toks _) h (ho.mono g2 n2) ⟨_,rfl⟩ fun st3 s3 hk hn R3=>?_;exact oEq (P:=fun o st'=>Z7 c ρ st.n st' s3 fun ρ'=>Qd ρ' st'.n o .next) hk ⟨ρ2,g1.trans g2 n1,by rw [hn]; exact W01 n1 n2,R3,rfl⟩
theorem ZaW (W:Z5 c T)(hl:Zje ξ ts vs=some l)(h1:Z0 c T (.ex (.Tuple vs k' p') ξ) st (.v x) st1)(hx:YE T c.ro st1 x=some xs)(hlen:xs.length=l.length)
  (h:Yr ξ l.reverse xs.reverse st1 (fun st=>some (.nx,st))=some (o,st')):Z0 c T (.st (.Assign [.Tuple ts k p] (.Tuple vs k' p') pos) ξ) st o st':=by
 intro A ρ env s E r e0 R;have hss:swappedStores [.Tuple ts k p] (.Tuple vs k' p') env=pure (some l):=Z4P e0 hl;rw [arm_exec_Assign];refine W0j (W0l (W0j (W0k ?_)));rw [if_neg Bool.false_ne_true];refine W0j (Zr h1 r e0 R fun u s1 ρ1 g1 n1 R1 hu e1=>?_);rw [hss];refine W0j (W0k ?_);unfold assignStores;refine W0j (wpAny_rule (W0j ?_))
 (refine xE (Z8l hx hu) ?_;intro a o0;subst o0)
 obtain ⟨us,ep,z1,z2⟩:=Z4c W.X W.C R1 hx hu;rw [show l.length=us.size from hlen.symm.trans (Z1r z2).symm];refine wpAny_unpackItems_tuple r.hh ⟨_,z1,rfl,_,rfl⟩ fun h' he=>?_;refine W0j (Z3e h (R1.more (h':=h') s1.toks (fun b o hb=>he b o (W05 (lt_size hb)) hb)) e1 z2.reverse fun st2 s2 hk hn R3=>?_);exact oEq (P:=fun o st'=>wpAny (model c.prog c.w) A (pure Flow.next) (PF c ρ st.n st' o) E s2) hk (W0k ⟨ρ1,g1,by rw [hn]; exact n1,R3,rfl⟩)
end
section
variable {prog:Program}{w:World}{A:Around}{E:Value→Shared→Prop}{R:Result→Shared→Prop}{s:Shared}
theorem Z1a {target it:Expr}{itv:Value}{body:List Stmt}{env:Env}
  (h:wpAny (model prog w) A (pyNext itv) (fun r s₁=>match r with
   | none=>R (.ok .next) s₁
   | some v=>wpAny (model prog w) A (letOwnedTupleGo target itv v) (fun u0 s₁' =>
     wpAny (model prog w) A (assign target env v) (fun u0 s₂=>wpAny (model prog w) A (execs body env) (fun f s₃=>match f with
      | .next | .cont=>codeAny (model prog w) A (.forLoop target itv body [] env) R s₃
      | .brk=>R (.ok .next) s₃
      | .ret v=>R (.ok (.ret v)) s₃) (notedBy (model prog w) A env fun e s'=>R (.error e) s') s₂) (notedBy (model prog w) A env fun e s'=>R (.error e) s') s₁') (notedBy (model prog w) A env fun e s'=>R (.error e) s') s₁) (notedBy (model prog w) A env fun e s'=>R (.error e) s') s) :
  codeAny (model prog w) A (.forLoop target itv body [] env) R s:=by
 refine codeAny_of_tree ?_;show wpAny _ A ((forTurn target itv body [] env).onRaise (fun x=>do noteFrame x env;theTreesLotGoes x)) _ _ s;refine wpAny_noted ?_;refine W0j (W0l (W0j (wpAny_onRaise (wpAny_mono h (fun r s₁ h₁=>?_) fun u0 u0 h'=>W0l h'))))
 cases r with
 | none=>exact W0k ⟨rfl,codeAny_block (wpAny_execs_nil h₁)⟩
 | some v =>
  refine W0j (wpAny_mono h₁ (fun u0 s₁' h₁'=>?_) fun u0 u0 h'=>h');refine W0j (wpAny_mono h₁' (fun u0 s₂ h₂=>W0j (wpAny_mono h₂ (fun f s₃ h₃=>?_) fun u0 u0 h'=>h')) fun u0 u0 h'=>h')
  induction f using PySem.Flow.casesOn with
  | next=>exact W0k ⟨rfl,h₃⟩
  | cont=>exact W0k ⟨rfl,h₃⟩
  | brk=>exact W0k h₃
  | ret v=>exact W0k h₃
theorem Z0o 
  (h:wpAny (model prog w) A (isTrue test env (eval test env)) (fun b s₂ =>
    if b then wpAny (model prog w) A (execs body env) (fun f s₃=>match f with
      | .next | .cont=>codeAny (model prog w) A (.whileLoop test body [] env) R s₃
      | .brk=>R (.ok .next) s₃
      | .ret v=>R (.ok (.ret v)) s₃) (notedBy (model prog w) A env fun e s'=>R (.error e) s') s₂
    else R (.ok .next) s₂) (notedBy (model prog w) A env fun e s'=>R (.error e) s') s):codeAny (model prog w) A (.whileLoop test body [] env) R s:=by
 refine codeAny_of_tree ?_;show wpAny _ A ((whileTurn test body [] env).onRaise (fun x=>do noteFrame x env;theTreesLotGoes x)) _ _ s;refine wpAny_noted ?_;simp only [whileTurn];refine W0j (wpAny_mono h (fun b s₂ h₂=>?_) fun u0 u0 h'=>h')
 cases b with
 | false =>
  exact W0j (wpAny_execs_nil (W0k h₂))
 | true =>
  refine W0j (wpAny_mono h₂ (fun f s₃ h₃=>?_) fun u0 u0 h'=>h')
  induction f using PySem.Flow.casesOn with
  | next=>exact W0k ⟨rfl,h₃⟩
  | cont=>exact W0k ⟨rfl,h₃⟩
  | brk=>exact W0k h₃
  | ret v=>exact W0k h₃
theorem Z0Y 
  (h:wpAny (model prog w) A (pyNext it) (fun r s₁=>match r with
   | none=>R (.ok .next) s₁
   | some v=>wpAny (model prog w) A (letOwnedTupleGo target it v) (fun u0 s₀=>wpAny (model prog w) A (assign target env v) (fun u0 s₂ =>
     wpAny (model prog w) A (forIn ifs true fun c r=>if r=true then do let ok ← isTrue c env (eval c env);pure (ForInStep.yield ok) else pure (ForInStep.yield r)) (fun ok s₃ =>
      if ok=true then wpAny (model prog w) A (eval elt env) (fun x s₄=>wpAny (model prog w) A (call (.builtin "list.append") [acc,x]) (fun u0 s₅=>codeAny (model prog w) A (.compLoop (.ListComp elt [⟨target,iter,ifs,0⟩] scope pos) 0 it acc env) R s₅) (notedBy (model prog w) A env fun e s'=>R (.error e) s') s₄) (notedBy (model prog w) A env fun e s'=>R (.error e) s') s₃
      else codeAny (model prog w) A (.compLoop (.ListComp elt [⟨target,iter,ifs,0⟩] scope pos) 0 it acc env) R s₃) (notedBy (model prog w) A env fun e s'=>R (.error e) s') s₂) (notedBy (model prog w) A env fun e s'=>R (.error e) s') s₀) (notedBy (model prog w) A env fun e s'=>R (.error e) s') s₁) (notedBy (model prog w) A env fun e s'=>R (.error e) s') s) :
  codeAny (model prog w) A (.compLoop (.ListComp elt [⟨target,iter,ifs,0⟩] scope pos) 0 it acc env) R s:=by
 refine codeAny_of_tree ?_;show wpAny _ A ((compTurn (.ListComp elt [⟨target,iter,ifs,0⟩] scope pos) 0 it acc env).onRaise (fun x=>do noteFrame x env;theTreesLotGoes x)) _ _ s;refine wpAny_noted ?_;rw [compTurn_list];refine W0j (W0l (W0j (wpAny_mono h (fun r s₁ h₁=>?_) fun u0 u0 h'=>h')))
 cases r with
 | none=>exact W0k h₁
 | some v =>
  refine W0j (wpAny_mono h₁ (fun u0 s₀ h₀=>W0j (wpAny_mono h₀ (fun u0 s₂ h₂=>W0j (wpAny_mono h₂ (fun ok s₃ h₃=>?_) fun u0 u0 h'=>h')) fun u0 u0 h'=>h')) fun u0 u0 h'=>h')
  cases ok with
  | false=>exact W0k ⟨rfl,h₃⟩
  | true=>exact W0j (W0j (wpAny_mono h₃ (fun x s₄ h₄=>W0j (wpAny_mono h₄ (fun u0 s₅ h₅=>W0k (W0k ⟨rfl,h₅⟩)) fun u0 u0 h'=>h')) fun u0 u0 h'=>h'))
end
section
variable {c:Cfg}{T:Tab}{ρ:Rho}{st st' st1 st2 st3 st4:St}{s:Shared}{A:Around}{E:Value→Shared→Prop}{ξ:Z3}{env:Env}
theorem Z5l (W:Z5 c T)(hx:Zy T c.ro st it=some (none,st1)):Z0 c T (.forl t it body ξ) st .nx st1:=by
 intro A ρ env s RR r e0 R hit hR;refine Z1a (it:=t) (wpAny_mono (Z2k W.X W.C r R hx) (fun rv s2 z9=>xEAAA z9 fun ρ2 g2 n2 R2 hv=>?_) fun u0 u0 z=>z)
 cases hv
 exact hR _ _ ⟨ρ2,g2,n2,R2,rfl⟩
theorem Z3F (W:Z5 c T)(hx:Zy T c.ro st it=some (some x,st1))(hl:YF t it x st1=some st2)(ha:Z0 c T (.asg t x ξ) st2 .u st3)(hb:Z0 c T (.sts body ξ) st3 o st4)
  (hn:(o = .nx∧Z0 c T (.forl t it body ξ) st4 o' st')∨(∃ v,o = .ret v∧o' = .ret v∧st'=st4)):Z0 c T (.forl t it body ξ) st o' st':=by
 intro A ρ env s RR r e0 R hit hR;refine Z1a (it:=t) (wpAny_mono (Z2k W.X W.C r R hx) (fun rv s2 z9=>xEAAA z9 fun ρ2 g2 n2 R2 hv=>?_) fun u0 u0 z=>z);obtain ⟨v,rfl,hv⟩:=hv;have e2:=e0.mono g2 n2;dsimp only;rw [← (g2 it hit).1];refine Z67 R2 hl hv fun s3 n3 R3=>?_;have e3:Zc ρ2 st2.n ξ env:=by rw [n3]; exact e2
 refine Xl ha r e3 R3 (by rw [n3]; exact hv) fun s4 ρ4 g4 n4 R4 e4=>?_;rw [n3] at g4 n4;have g04:Ag ρ ρ4 st.n:=g2.trans g4 n2;have n04:st.n≤st3.n:=W01 n2 n4;refine Jb hb r e4 R4 fun fl s5 ρ5 g5 n5 R5 hf e5=>?_;rcases hn with ⟨rfl,hn⟩ | ⟨y,rfl,rfl,rfl⟩
 ·cases hf
  have ei:ρ2.a it=ρ5.a it:=by
   rw [(g2 it hit).1,((g04.trans g5 n04) it hit).1]
  dsimp only;rw [ei];exact hn A ρ5 env s5 RR r e5 R5 (W00 hit (W01 n04 n5)) fun f s' z=>hR f s' ((z.trans g5 n5).trans g04 n04)
 ·(refine xEA hf ?_;(try clear hf);intro v o0 hv';subst o0)
  exact hR _ _ ⟨ρ5,g04.trans g5 n04,W01 n04 n5,R5,v,rfl,hv'⟩
theorem ZaB (h1:Z0 c T (.tst t ξ) st (.b false) st1):Z0 c T (.whl t body ξ) st .nx st1:=by
 intro A ρ env s RR r e0 R hR;refine Z0o (Jp h1 r e0 R fun s2 ρ2 g2 n2 R2 e2=>?_);rw [if_neg (by decide)];exact hR _ _ ⟨ρ2,g2,n2,R2,rfl⟩
theorem Zeg (h1:Z0 c T (.tst t ξ) st (.b true) st1)(h2:Z0 c T (.sts body ξ) st1 .nx st2)(h:Z0 c T (.whl t body ξ) st2 o st'):Z0 c T (.whl t body ξ) st o st':=by
 intro A ρ env s RR r e0 R hR;refine Z0o (Jp h1 r e0 R fun s2 ρ2 g2 n2 R2 e2=>?_);rw [if_pos rfl];refine Jb h2 r e2 R2 fun fl s5 ρ5 g5 n5 R5 hf e5=>?_
 cases hf
 exact h A ρ5 env s5 RR r e5 R5 fun f s' z=>hR f s' ((z.trans g5 n5).trans g2 n2)
theorem Zdw:Z0 c T (.ifs [] ξ) st (.b true) st:=by
 intro A ρ env s E r e0 R;exact wpAny_tests_nil (Z7.here R rfl)
theorem ZaR (h:Z0 c T (.tst e ξ) st (.b b) st1):Z0 c T (.ifs [e] ξ) st (.b b) st1:=by
 intro A ρ env s E r e0 R;exact wpAny_tests_one (Jp h r e0 R fun s1 ρ1 g1 n1 R1 e1=>⟨ρ1,g1,n1,R1,rfl⟩)
theorem Z9l (W:Z5 c T)(hx:Zy T c.ro st it=some (none,st1)):Z0 c T (.comp elt t ifs it acc ξ) st .u st1:=by
 intro A ρ env s RR iter scope pos r e0 R hit hacc hR;refine Z0Y (wpAny_mono (Z2k W.X W.C r R hx) (fun rv s2 z9=>xEAAA z9 fun ρ2 g2 n2 R2 hv=>?_) fun u0 u0 z=>z)
 cases hv
 exact hR _ _ ⟨ρ2,g2,n2,R2,trivial⟩
theorem Z69 (W:Z5 c T)(hx:Zy T c.ro st it=some (some x,st1))(hl:YF t it x st1=some st2)(ha:Z0 c T (.asg t x ξ) st2 .u st3)
  (hi:Z0 c T (.ifs ifs ξ) st3 (.b b) st4)
  (he:(b=false∧st6=st4)∨(b=true∧Z0 c T (.ex elt ξ) st4 (.v y) st5∧st5.get acc=some (.list xs)∧xs.length<lim∧st6=st5.put acc (.list (xs++[y]))))
  (hn:Z0 c T (.comp elt t ifs it acc ξ) st6 .u st'):Z0 c T (.comp elt t ifs it acc ξ) st .u st':=by
 intro A ρ env s RR iter scope pos r e0 R hit hacc hR;refine Z0Y (wpAny_mono (Z2k W.X W.C r R hx) (fun rv s2 z9=>xEAAA z9 fun ρ2 g2 n2 R2 hv=>?_) fun u0 u0 z=>z);obtain ⟨v,rfl,hv⟩:=hv;have e2:=e0.mono g2 n2;dsimp only;rw [← (g2 it hit).1];refine Z67 R2 hl hv fun s3 n3 R3=>?_;have e3:Zc ρ2 st2.n ξ env:=by rw [n3]; exact e2
 refine Xl ha r e3 R3 (by rw [n3]; exact hv) fun s4 ρ4 g4 n4 R4 e4=>?_;refine wpAny_mono (hi A ρ4 env s4 _ r e4 R4) (fun ok s5 z9=>xEAAA z9 fun ρ5 g5 n5 R5 hb=>?_) fun u0 u0 z=>z;subst hb;have e5:=e4.mono g5 n5;rw [n3] at g4 n4;have g05:Ag ρ ρ5 st.n:=(g2.trans g4 n2).trans g5 (W01 n2 n4);have n05:st.n≤st4.n:=W01 (W01 n2 n4) n5;have ei:ρ2.a it=ρ.a it:=(g2 it hit).1
 rcases he with ⟨rfl,rfl⟩ | ⟨rfl,he,hg,hz,rfl⟩
 ·rw [if_neg (by decide),ei,← (g05 it hit).1,← (g05 acc hacc).1];exact hn A ρ5 env s5 RR iter scope pos r e5 R5 (W00 hit n05) (W00 hacc n05) fun f s' z=>hR f s' (z.trans g05 n05)
 ·rw [if_pos rfl];refine Zr he r e5 R5 fun vy s6 ρ6 g6 n6 R6 hy e6=>?_;have g06:=g05.trans g6 n05;have n06:=W01 n05 n6;rw [← (g06 acc hacc).1];refine Z4x R6 hg hz hy fun s7 R7=>?_;rw [ei,← (g06 it hit).1];exact hn A ρ6 env s7 RR iter scope pos r e6 R7 (W00 hit n06) (W00 hacc n06) fun f s' z=>hR f s' (z.trans g06 n06)
theorem ZaG {G:Prop}(h:QC r l=some z)(g:∀ o st m,r=some (o,st)→st.get l=some (.frame m)→z=(o,st.del l)→G):G:=by
 cases r with
 | none=>exact no h
 | some r =>
  have h:(match r.2.get l with | some (.frame _)=>some (r.1,r.2.del l) | _=>none)=some z:=h
  cases hg:r.2.get l with
  | none=>rw [hg] at h;exact no h
  | some o =>
   rw [hg] at h
   cases o with
   | frame m=>exact g r.1 r.2 m rfl hg (W0g h).symm
   | _=>exact no h
theorem Z5I (W:Z5 c T){K:Nat→St→Res}(hf:(Zi sc.kind&&Zi ξ.sc.kind)=true)(hs:ZI iter=false)(hc:Yc ξ sc.names=some cs)(ha:Ja sc.names=true)
  (h1:Z0 c T (.ex iter ξ) st (.v x) st1) (h2:ZT T c.ro st1 x K=some z) (h:∀ it st2,K it st2=some z→Zk2 c T elt t ifs sc cs ξ (fun acc st4=>QC (some (Out.v (.ref acc),st4)) (acc+1)=some (.v y,st')) it st2) :
  Z0 c T (.ex (.ListComp elt [⟨t,iter,ifs,0⟩] sc pos) ξ) st (.v y) st':=by
 intro A ρ env s E r e0 R;obtain ⟨cl,hcl,hk,hn,hs,hw⟩:=Z4L (A:=A) (E:=E) (pos:=pos) (RR:=fun acc C r s'=>compPost (model c.prog c.w) A E none (PV c ρ st.n st' y) acc C r s') W.X W.C hf hs hc ha h1 h2 h r e0 R (by
  intro ρ1 acc st1 s1 f g1 hl ha n1 R1 hd e1;refine ZaG hd fun o st2 m h1 hg h2=>?_
  cases h1
  cases h2
  (refine xAA (R1.at_ _ _ hg) ?_;intro _ o0 _;obtain ⟨f,hf,_⟩:=o0)
  exact ⟨f,hf,fun h' sb=>⟨ρ1,g1,n1,R1.drop (h':=h') s1.toks hg (fun b ob hb e=>sb.extBut b ob hb e) (.inr hl),Nat.lt_of_succ_lt ha,rfl⟩⟩)
 rw [eval_ListComp];exact wpAny_comprehension_free rfl hs hcl hk hn hw
theorem Z3u (W:Z5 c T){K:Nat→St→Res}(hh:JJ ξ y p vp sc.names=true)(hf:(Zi sc.kind&&Zi ξ.sc.kind)=true)(hs:ZI iter=false)(hc:Yc ξ sc.names=some cs)
  (ha:Ja sc.names=true) (h1:Z0 c T (.ex iter ξ) st (.v x) st1) (h2:ZT T c.ro st1 x K=some z) (h:∀ it st2,K it st2=some z→Zk2 c T elt t ifs sc cs ξ (fun acc st4=>QC (Zx ξ y (.ref acc) st4 fun st=>some (.nx,st)) (acc+1)=some (o,st')) it st2) :
  Z0 c T (.st (.Assign [.Name y p] (.ListComp elt [⟨t,iter,ifs,0⟩] sc vp) sp) ξ) st o st':=by
 intro A ρ env s E r e0 R;have hfn:=(W0h hf).2;obtain ⟨cl,hcl,hk,hn,hs,hw⟩:=Z4L (A:=A) (E:=E) (pos:=vp) (RR:=fun acc C r s'=>compPost (model c.prog c.w) A E (some (assign (.Name y p) env)) (fun u0 s'=>Z7 c ρ st.n st' s' fun ρ'=>Qd ρ' st'.n o .next) acc C r s') W.X W.C hf hs hc ha h1 h2 h r e0 R (by
  intro ρ1 acc st1 s1 f g1 hl ha n1 R1 hd e1;refine ZaG hd fun o' st2 m h1 hg h2=>?_
  cases h2
  refine wpAny_assign_Name (Z1j h1 R1 e1 ⟨Nat.lt_of_succ_lt ha,rfl⟩ fun st3 s3 hk hn3 R3=>?_)
  cases (hk)
  (refine xAA (R3.at_ _ _ hg) ?_;intro _ o0 _;obtain ⟨f,hf,_⟩:=o0)
  exact ⟨f,hf,fun h' sb=>⟨ρ1,g1,by show st.n≤st2.n;rw [hn3]; exact n1,R3.drop (h':=h') s3.toks hg (fun b ob hb e=>sb.extBut b ob hb e) (.inr hl),rfl⟩⟩)
 rw [exec_Assign_Name_used _ _ _ _ (show swapsWith (.ListComp elt [⟨t,iter,ifs,0⟩] sc vp) (some (.Name y p)) sp.line env=pure true by rw [Z23 hfn e0,hh])];refine W0j (W0l (W0j ?_));show wpAny _ A (do let _ ← comprehension (.ListComp elt [⟨t,iter,ifs,0⟩] sc vp) sc env _ (newList []) false (eval iter env) (some (assign (.Name y p) env))) _ _ s;exact W0j (wpAny_mono (wpAny_comprehension_free (use:=some (assign (.Name y p) env)) rfl hs hcl hk hn hw) (fun u0 s' hq=>W0k (W0k hq)) fun u0 u0 e=>e)
theorem Z6X (W:Z5 c T)(hh:JJ ξ y p vp sc.names=true)(hf:(Zi sc.kind&&Zi ξ.sc.kind)=true)(hs:ZI iter=false)(hc:Yc ξ sc.names=some cs)(ha:Ja sc.names=true)
  (h1:Z0 c T (.ex iter ξ) st (.v x) st1) (h2:ZT T c.ro st1 x (fun i st=>some (.v (.ref i),st))=some (.v (.ref it),st2)) (hi:QB (st2.get it)=true)
  (h3:Z0 c T (.comp elt t ifs it st2.n ⟨{ sc with names:=YG ξ sc.names },st2.n+1,cs,ξ.code,ξ.qual,ξ.lev⟩) ((st2.push (.list [])).push (.frame [])) .u st3)
  (h4:Zx ξ y (.ref st2.n) st3 (fun st=>some (.nx,st))=some (.nx,st4)) (hm:st4.get (st2.n+1)=some (.frame m)) :
  Z0 c T (.st (.Assign [.Name y p] (.ListComp elt [⟨t,iter,ifs,0⟩] sc vp) sp) ξ) st .nx (st4.del (st2.n+1)) :=
 Z3u W hh hf hs hc ha h1 h2 fun i' s' e=>by cases e;exact ⟨hi,st3,h3,by show QC (Zx ξ y (.ref st2.n) st3 _) _=_;rw [h4]; unfold QC;dsimp only;rw [hm]⟩
theorem Zdu (h1:Z0 c T (.tst t ξ) st (.b true) st1)(h2:Z0 c T (.sts body ξ) st1 (.ret v) st2):Z0 c T (.whl t body ξ) st (.ret v) st2:=by
 intro A ρ env s RR r e0 R hR;refine Z0o (Jp h1 r e0 R fun s2 ρ2 g2 n2 R2 e2=>?_);rw [if_pos rfl];refine Jb h2 r e2 R2 fun fl s5 ρ5 g5 n5 R5 hf e5=>?_
 (refine xEA hf ?_;(try clear hf);intro u o0 hv;subst o0)
 exact hR _ _ ⟨ρ5,g2.trans g5 n2,W01 n2 n5,R5,u,rfl,hv⟩
theorem Zdm (W:Z5 c T){K:Nat→St→Res}(hs:ZI it=false)(h1:Z0 c T (.ex it ξ) st (.v x) st1)(h2:ZT T c.ro st1 x K=some z)
  (h:∀ i st2,K i st2=some z→Z0 c T (.forl t i b ξ) st2 o st'):Z0 c T (.st (.For t it b [] pos) ξ) st o st':=by
 intro A ρ env s E r e0 R;refine wpAny_For (Zr h1 r e0 R fun v s1 ρ1 g1 n1 R1 hv e1=>Z24 W.X W.C R1 h2 hv fun ρ2 i' st2' s2 hk hi g2 n2 R2=>?_) (Z2J hs);exact h _ _ hk A ρ2 env s2 _ r (e1.mono g2 n2) R2 hi fun f s' z=>(z.trans g2 n2).trans g1 n1
theorem Ze9:Z0 c T (.prs [] [] ξ) st (.vs []) st:=by
 intro A ρ env s E pos r e0 R;exact evalPairs_nil (Z7.here R trivial)
theorem ZeD (h1:Z0 c T (.ex k ξ) st (.v x) st1)(h2:Z0 c T (.ex v ξ) st1 (.v y) st2)(h3:Z0 c T (.prs ks vs ξ) st2 (.vs l) st3) :
  Z0 c T (.prs (some k::ks) (v::vs) ξ) st (.vs (x::y::l)) st3:=by
 intro A ρ env s E pos r e0 R;refine evalPairs_cons (Zr h1 r e0 R fun u s1 ρ1 g1 n1 R1 hu e1=>W0j (Zr h2 r e1 R1 fun w s2 ρ2 g2 n2 R2 hw e2=>W0j (W0l (W0k ?_))));exact wpAny_mono (h3 A ρ2 env s2 E pos r e2 R2) (fun ps s3 z9=>xEAAA z9 fun ρ3 g3 n3 R3 hp=>⟨ρ3,(g1.trans g2 n1).trans g3 (W01 n1 n2),W01 (W01 n1 n2) n3,R3,(hu.mono g2 n2).mono g3 n3,hw.mono g3 n3,hp⟩) fun u0 u0 z=>z
theorem Zes (W:Z5 c T)(h:JI T c.ro b args st=some (.v x,st')):Z0 c T (.call (.bi b) args lev) st (.v x) st':=by
 intro A ρ s E fv vs rm R hf ha
 cases hf
 exact Zbk (T:=T) W.C h rm R ha
def Zv (r:ZF)(n lev:Nat):Z3:=⟨r.sc,n,newCells r.sc.names (n+1),r.code,ZU r.qual,lev⟩
def ZO (r:ZF)(bs:List MV)(lev:Nat)(st:St):Res:=YR r.sc.names (st.push (.frame [])) fun st1=>Yr (Zv r st.n lev) r.ps bs st1 fun st2=>some (.u,st2)
noncomputable def JL:Out→Option MV
 | .nx=>some .none
 | .ret x=>some x
 | _=>none
theorem Z3z:∀ {names:List (Str×NameKind)}{st st1:St},YR names st (fun s=>some (.u,s))=some (.u,st1)→∀ k,YR names st k=k st1
 | [],st,st1,h,k=>by cases h;rfl
 | (x,kd)::r,st,st1,h,k=>by
  induction kd using PySem.NameKind.casesOn<;>exact Z3z (names:=r) h k
theorem Z1w:∀ (names:List (Str×NameKind))(st:St),∃ st1,YR names st (fun s=>some (.u,s))=some (.u,st1)
 | [],st=>⟨st,rfl⟩
 | (x,kd)::r,st=>by
  induction kd using PySem.NameKind.casesOn<;>exact Z1w r _
noncomputable def Cfg.withG (c:Cfg)(L:Addr):Cfg:={ c with G:=fun a=>c.G a∨a=L }
theorem Z5.withG (W:Z5 c T)(L:Addr):Z5 (c.withG L) T:=by
 refine ⟨⟨W.X.glob,fun a r h=>⟨(W.X.fn a r h).keep,(W.X.fn a r h).fd⟩,fun a xs h=>W.X.base a xs h⟩,fun C r h=>?_,⟨W.C.kin,W.C.alive,W.C.sys,W.C.lim,W.C.limU,W.C.limS⟩⟩;have k:=W.Y C r h;exact ⟨k.keep,k.ga,k.gh,k.sa,k.over,k.dict,k.attrs,k.meths,k.makes,k.init,k.data⟩
theorem At.withG:At (c.withG L) ρ n h i o↔At c ρ n h i o:=by
 cases o with
 | cell x=>induction x using Option.casesOn<;>exact Iff.rfl
 | _=>exact Iff.rfl
theorem Rel.withG (R:Rel c ρ st s)(h:s.heap.get? L=some ob)(hd:∀ vs,ob.data ≠ .fields vs)(hu:¬ c.U L)(hf:∀ i o,st.get i=some o→ρ.a i=L→ZE o=true):Rel (c.withG L) ρ st s :=
 ⟨fun a ha=>ha.elim (R.big a) fun q=>by rw [q]; exact ⟨⟨ob,h,hd⟩,hu,hf⟩,fun i o e=>xAA (R.at_ i o e) fun a b d=>⟨a,At.withG.mpr b,d⟩,R.inj,fun i o e=>xAA (R.ro i o e) fun a b d=>⟨a,At.withG.mpr b,d⟩,R.keep,R.gens,R.os,R.drawn⟩
theorem Rel.noG (R:Rel (c.withG L) ρ st s):Rel c ρ st s :=
 ⟨fun a ha=>R.big a (.inl ha),fun i o e=>xAA (R.at_ i o e) fun a b d=>⟨a,At.withG.mp b,d⟩,R.inj,fun i o e=>xAA (R.ro i o e) fun a b d=>⟨a,At.withG.mp b,d⟩,R.keep,R.gens,R.os,R.drawn⟩
theorem Zg.in_ (r:Zg c A (lev+1))(hk:env.scope.kind ≠ .module)(hf:env.frame=some L):Zg (c.withG L) (A.deeper env) lev:=by
 have h1:=r.depth;have h2:=r.units;refine ⟨r.hh,?_,?_,fun q=>?_⟩
 ·show A.depth+1+4*lev+4≤1000;omega
 ·show A.units+3+20*lev+200≤9900;omega
 ·obtain ⟨fr,e,k⟩:=r.fr q;refine ⟨env::fr,Around.frames_deeper e,fun v hv=>?_⟩;rcases W0i hv with rfl | hv
  ·exact ⟨hk,L,hf,.inr rfl⟩
  ·(refine xAEA (k v hv) ?_;intro k1 L' k2 k3)
   exact ⟨k1,L',k2,.inl k3⟩
set_option backward.match.sparseCases true in
theorem Z2g (W:Z5 c T)(F:ZcB c a r)(hbs:Yw r.ps r.dfl args=some bs)(h1:ZO r bs lev st=some (.u,st1))(rm:Zg c A (lev+1))(R:Rel c ρ st s)(ha:Are ρ st.n args vs)
  
  (hk:∀ env ρ1 s1,Zg (c.withG s.heap.objs.size) (A.deeper env) lev→Zc ρ1 st1.n (Zv r st.n lev) env→Rel (c.withG s.heap.objs.size) ρ1 st1 s1→Ag ρ ρ1 st.n→st.n≤st1.n→env.frame=some (ρ1.a st.n)→env.scope.kind = .function→ρ1.a st.n=s.heap.objs.size →
   wpAny (model c.prog c.w) (A.deeper env) (execs r.body env) (fun f s'=>RR (.ok (.ret (match f with | .ret v=>v | _=>.none))) s')
    (fun e s'=>wpAny (model c.prog c.w) (A.deeper env) (leaving env e) (fun u0 s''=>RR (.error e) s'') (fun e' s''=>RR (.error e') s'') s') s1):codeAny (model c.prog c.w) A (.call (.ref a) ⟨vs,[]⟩) RR s:=by
 (refine xEEAAAAAA (F.fd) ?_;intro o fd k1 k2 k3 k4 k5 k6 o0;refine xAAAAAAAA o0 ?_;clear o0;intro k7 k8 k9 k10 k11 kc kq k12 k13)
 obtain ⟨us,hus,hbind,hlen⟩:=k13 s ρ st.n args bs vs (R.kin W.C) ha hbs;have W1:Z5 (c.withG s.heap.objs.size) T:=W.withG _;refine codeAny_call_function rm.room (R.kin W.C a o k1) k3 k9 k10 k4 (k12 _ (R.kin W.C)) (hbind _ _ _ _ ?_);rw [k6];refine W0j (wpAny_alloc ?_);have g:=ρ.ext_ag st.n s.heap.objs.size 0;have R1:Rel (c.withG s.heap.objs.size) (ρ.ext st.n s.heap.objs.size 0) (st.push (.frame [])) { s with heap:=s.heap.push { cls:=.type "frame",data:=.dict #[] } }:=by
  have R0:=R.push W.C s.toks trivial (o:=.frame []) (ob:={ cls:=.type "frame",data:=.dict #[] }) (e:=0) ⟨fun u0=>none,(by rw [Rho.ext_a]; exact Heap.Ns.new s.heap (.type "frame")),fun x=>rfl⟩;refine Rel.withG (c:=c) (L:=s.heap.objs.size) R0 (get?_push_size _ rfl) nofun (fun q=>absurd (R.old_lt W.C q) (lt_irrefl _)) fun i o e q=>?_
  ·rw [St.get_push] at e;by_cases hi:i=st.n
   ·rw [if_pos hi] at e;cases e;rfl
   ·rw [if_neg hi] at e;obtain ⟨k1,k2,_⟩:=R.at_ i o e;obtain ⟨ob,hob⟩:=k2.some;rw [(g i k1).1] at q;exact absurd (lt_size hob) (by rw [q]; exact lt_irrefl _)
 (first | delta ZO at h1 | unfold ZO at h1)
 rw [← k5] at h1;obtain ⟨ρ2,st2,h2,g2,n2,R2,hc2,hl2⟩:=Z49 W1.C h1 R1;refine W0j (wpAny_layCells _ (fun name kind cells=>by cases hkc:kind==NameKind.cell<;>simp [hkc]) _ _ _ _ ?_);have hcs:=hc2 [];rw [append_nil] at hcs;have n2':st.n+1≤st2.n:=n2;have eL:ρ2.a st.n=s.heap.objs.size:=by rw [(g2 st.n (lt_succ_self _)).1,Rho.ext_a]
 have eE:Zc ρ2 st2.n (Zv r st.n lev)
   (newEnv fd.scope s.heap.objs.size fd.globals (cellsFrom ({ s with heap:=s.heap.push { cls:=.type "frame",data:=.dict #[] } }:Shared).heap.objs.size fd.scope.names []) (fd.qualname++".<locals>.") (some a) fd.code none fd.builtins):=by
  refine ⟨k5,Nat.lt_of_succ_le n2',eL.symm,fun y j hj=>?_,k7,k8,kc,by show fd.qualname++".<locals>."=_;rw [kq]; rfl⟩;have hj:Y6 y (newCells r.sc.names (st.n+1))=some j:=hj;rw [← k5] at hj;refine ⟨hl2 _ (Xk hj),?_⟩;show (cellsFrom _ fd.scope.names []).lookup y=_;rw [hcs];exact Z0U hj
 have hbs2:Are ρ2 st2.n bs us:=(hus.mono g (W03 _)).mono g2 n2;refine W0j (Z6A (c:=c.withG s.heap.objs.size) (env:=newEnv fd.scope s.heap.objs.size fd.globals (cellsFrom ({ s with heap:=s.heap.push { cls:=.type "frame",data:=.dict #[] } }:Shared).heap.objs.size fd.scope.names []) (fd.qualname++".<locals>.") (some a) fd.code none fd.builtins) _ (by intros;rfl) h2 hlen R2 eE hbs2 fun st3 s3 h3 hn3 R3=>W0k ⟨Z2E W1.C R3,codeAny_func ?_⟩)
 cases h3
 have e3:=eE;rw [← hn3] at e3;have g02:Ag ρ ρ2 st.n:=g.trans g2 (W03 _);refine hk _ ρ2 s3 (rm.in_ (by show fd.scope.kind ≠ .module;rw [k11]; nofun) rfl) e3 R3 g02 (by omega) (by rw [eL]) k11 eL
theorem Z7X (W:Z5 c T)(hr:T.fn a=some r)(hb:Yw r.ps r.dfl args=some bs)(h1:ZO r bs lev st=some (.u,st1))(h2:∀ L,Z0 (c.withG L) T (.sts r.body (Zv r st.n lev)) st1 o st')(hx:JL o=some x)
  (rm:Zg c A (lev+1)) (R:Rel c ρ st s) (ha:Are ρ st.n args vs) (hR:∀ v s',(Z7 c ρ st.n st' s' fun ρ'=>x.Is ρ' st'.n v)→RR (.ok (.ret v)) s'):codeAny (model c.prog c.w) A (.call (.ref a) ⟨vs,[]⟩) RR s:=by
 refine Z2g W (W.X.fn _ _ hr) hb h1 rm R ha fun env ρ1 s1 rm1 e1 R1 g1 n1 u0 u0 u0=>?_;refine Jb (c:=c.withG s.heap.objs.size) (T:=T) (h2 _) rm1 e1 R1 fun f s4 ρ4 g4 n4 R4 hf e4=>?_;have done:∀ v,x.Is ρ4 st'.n v→Z7 c ρ st.n st' s4 fun ρ'=>x.Is ρ' st'.n v:=fun v hv=>⟨ρ4,g1.trans g4 n1,W01 n1 n4,R4.noG,hv⟩;refine hR _ _ ?_
 cases o with
 | nx=>cases hx;cases hf;exact done _ rfl
 | ret y=>cases hx;(refine xEA hf ?_;(try clear hf);intro v o0 hv;subst o0);exact done _ hv
 | _=>cases hx
theorem ZdB (W:Z5 c T)(hr:T.fn a=some r)(hb:Yw r.ps r.dfl args=some bs)(h1:ZO r bs lev st=some (.u,st1))(h2:∀ L,Z0 (c.withG L) T (.sts r.body (Zv r st.n lev)) st1 o st')(hx:JL o=some x) :
  Z0 c T (.call (.old a) args (lev+1)) st (.v x) st':=fun A ρ s E fv vs rm R hf ha=>by
 cases hf
 exact wpAny_call (Z7X W hr hb h1 h2 hx rm R ha fun u0 u0 z=>z)
theorem ZeM (hX:¬ c.X)(W:Z5 c T)(hc:T.cls a=some r)(hr:T.fn r.init=some fr)(hb:Yw fr.ps fr.dfl (.ref (st.n+1)::args)=some bs)(h1:ZO fr bs lev ((st.push (.dict [])).push (.inst a st.n))=some (.u,st1))
  (h2:∀ L,Z0 (c.withG L) T (.sts fr.body (Zv fr (st.n+2) lev)) st1 o st') (hx:JL o=some .none):Z0 c T (.call (.old a) args (lev+2)) st (.v (.ref (st.n+1))) st':=by
 intro A ρ s E fv vs rm R hf ha
 cases hf
 have K:=W.Y _ _ hc;have R1:=Z4n R W.C trivial;have g1:=ρ.ext_ag st.n s.heap.objs.size 0;have R2:Rel c ((ρ.ext st.n s.heap.objs.size 0).ext (st.n+1) (s.heap.objs.size+1) 0) ((st.push (.dict [])).push (.inst a st.n)) { s with heap:=(s.heap.push { cls:=.type "dict",data:=.dict #[] }).push (instObj a s.heap.objs.size) }:=by
  have:=R1.push (e:=0) (o:=.inst a st.n) (ob:=instObj a s.heap.objs.size) W.C s.toks trivial ⟨by show st.n<st.n+1+1;omega,by
   rw [Rho.ext_a];have q:=((ρ.ext st.n s.heap.objs.size 0).ext_ag (st.n+1) (s.heap.push { cls:=.type "dict",data:=.dict #[] }).objs.size 0 st.n (W02 _)).1;rw [show (st.push (.dict [])).n=st.n+1 from rfl,q,Rho.ext_a];exact get?_push_size _ rfl⟩
  rw [show (st.push (.dict [])).n=st.n+1 from rfl] at this;rw [show ({ s with heap:=s.heap.push { cls:=.type "dict",data:=.dict #[] } }:Shared).heap.objs.size=s.heap.objs.size+1 from size_push ..] at this;exact this
 have g2:=(ρ.ext st.n s.heap.objs.size 0).ext_ag (st.n+1) (s.heap.objs.size+1) 0;have ei:((ρ.ext st.n s.heap.objs.size 0).ext (st.n+1) (s.heap.objs.size+1) 0).a (st.n+1)=s.heap.objs.size+1:=Rho.ext_a _ _ _ _;have g12:Ag ρ _ st.n:=g1.trans g2 (W03 _)
 generalize ((ρ.ext st.n s.heap.objs.size 0).ext (st.n+1) (s.heap.objs.size+1) 0)=ρ2 at R2 ei g12
 clear g2 g1 R1;refine wpAny_call ?_;obtain ⟨hh,gn,d,t,os⟩:=s;refine make_core (makes_of (R.kin W.C) K.makes) (looks_findIn (R.kin W.C) K.init.1) (fun self=>bind_fn (R.kin W.C) self K.init.2) (.inl rfl) ?_;refine Z7X W hr hb h1 h2 hx (Z77 hX rm) R2 (vs:=.ref (hh.objs.size+1)::vs) ⟨⟨W02 _,congrArg Value.ref ei.symm⟩,ha.mono g12 (W07 _ 2)⟩ fun v s' z9=>xEAAA z9 fun ρ3 g3 n3 R3 hv=>?_
 cases hv
 exact ⟨rfl,ρ3,g12.trans g3 (W07 _ 2),W01 (W07 st.n 2) n3,R3,W00 (W02 _) n3,congrArg Value.ref (((g3 _ (W02 _)).1.trans ei).symm)⟩
theorem Zck {G:Prop}(h:YR names st k=some z)(g:∀ st1,YR names st (fun s=>some (.u,s))=some (.u,st1)→k st1=some z→G):G :=
 let ⟨st1,e⟩:=Z1w names st
 g st1 e ((Z3z e k).symm.trans h)
theorem Z7W {G:Prop}(h:Zx ξ x v st k=some z)(g:∀ st1,(∀ k',Zx ξ x v st k'=k' st1)→k st1=some z→G):G:=by
 refine bT' h fun e1 h=>Zdh h (fun e2 h=>?_) fun e2 h=>?_
 ·refine rdF h fun m e3 h=>g _ (fun k'=>?_) h;unfold Zx;rw [e1,e2];dsimp only;rw [e3]
 ·refine bE h fun j e3 h=>rdC h fun w e4 h=>g _ (fun k'=>?_) h;unfold Zx;rw [e1,e2];rw [e3];show (match st.get j with | some (.cell _)=>_ | _=>none)=_;rw [e4]
theorem Z8o {G:Prop}:∀ {xs:List Str}{vs:List MV}{st:St},Yr ξ xs vs st k=some z→(∀ st1,Yr ξ xs vs st (fun s=>some (.u,s))=some (.u,st1)→k st1=some z→G)→G
 | [],vs,st,h,g=>g st (by unfold Yr;rfl) (by unfold Yr at h;exact h)
 | x::xs,[],st,h,g=>no h
 | x::xs,v::vs,st,h,g=>Z7W (k:=fun st=>Yr ξ xs vs st k) h fun st1 e h=>Z8o h fun st2 e' h=>g st2 ((e _).trans e') h
end
def Zlv (c:Cfg)(T:Tab):Prop:=∀ f args lev st o st',T.orc f args lev st=some (o,st')→Z0 c T (.call f args lev) st o st'
def Y4 (T:Tab):Prop:=∀ c,¬ c.X→Z5 c T→Zlv c T
def Zj3 (T:Tab)(ro:Tr MObj)(r:Ev):Prop:=∀ c,c.ro=ro→¬ c.X→Z5 c T→YU c T r
def ZkK (r:Res):Res:=onF r (fun st=>some (.v .none,st)) (fun x st=>some (.v x,st))
section
variable {c:Cfg}{T:Tab}{rec:Ev}{st st':St}{ξ:Z3}{G:Prop}
theorem ZbJ (h:ZkK r=some (.v x,st')):∃ o,r=some (o,st')∧JL o=some x :=
 Z9V h (fun u0 e h=>vE h ⟨_,e,rfl⟩) (fun u0 u0 e h=>vE h ⟨_,e,rfl⟩)
theorem Z6K (h:Zik rec r args lev st=some (.v x,st'))(g:∀ bs st1 o,Yw r.ps r.dfl args=some bs→ZO r bs lev st=some (.u,st1)→rec (.sts r.body (Zv r st.n lev)) st1=some (o,st')→JL o=some x→G):G:=by
 delta Zik at h
 cases hb:Yw r.ps r.dfl args with
 | none=>rw [hb] at h;exact no h
 | some bs =>
  rw [hb] at h;have h:YR r.sc.names (st.push (.frame [])) (fun s=>Yr (Zv r st.n lev) r.ps bs s fun st1=>ZkK (rec (.sts r.body (Zv r st.n lev)) st1))=some (.v x,st'):=h;refine Zck h fun s1 e1 h=>Z8o (k:=fun st1=>ZkK (rec (.sts r.body (Zv r st.n lev)) st1)) h fun s2 e2 h=>?_;obtain ⟨o,h3,h4⟩:=ZbJ h;exact g bs s2 o hb ((Z3z e1 _).trans e2) h3 h4
theorem Zfr (hX:¬ c.X)(W:Z5 c T)(S:Zj3 T c.ro rec)(hr:T.fn a=some r)(h:Zik rec r args lev st=some (.v x,st')):Z0 c T (.call (.old a) args (lev+1)) st (.v x) st' :=
 Z6K h fun u0 u0 u0 hb h1 h2 hx=>ZdB W hr hb h1 (fun L=>S (c.withG L) rfl hX (W.withG L) _ _ _ _ h2) hx
theorem pdE {o:Option (List (Str×MV))}{d:Option MObj}{F:List (Str×MV)→Res}{z:Out×St}(h:(match o,d with | some ps,some (.dict [])=>F ps | _,_=>none)=some z)(g:∀ ps,o=some ps→d=some (.dict [])→F ps=some z→G):G:=by
 cases o with
 | none=>exact no h
 | some ps=>cases d with
  | none=>exact no h
  | some d=>cases d with
   | dict es=>cases es with
    | nil=>exact g ps rfl rfl h
    | cons _ _=>exact no h
   | _=>exact no h
theorem fcE {o:Option ZF}{o2:Option Qu}{F:ZF→Res}{F2:Qu→Res}{z:Out×St}(h:(match o with | some r=>F r | none=>match o2 with | some r=>F2 r | none=>none)=some z)(g:∀ r,o=some r→F r=some z→G)(g2:∀ r,o2=some r→F2 r=some z→G):G:=by
 cases o with
 | some r=>exact g r rfl h
 | none=>cases o2 with
  | some r=>exact g2 r rfl h
  | none=>exact no h
theorem lfE {n:Nat}{o:Option ZF}{F:Nat→ZF→Res}{z:Out×St}(h:(match n,o with | n+1,some r=>F n r | _,_=>none)=some z)(g:∀ l r,n=l+1→o=some r→F l r=some z→G):G:=by
 induction n using Nat.casesOn with
 | zero=>exact no h
 | succ n=>cases o with
  | some r=>exact g n r rfl rfl h
  | none=>exact no h
theorem Zc6 (hX:¬ c.X)(W:Z5 c T)(S:Zj3 T c.ro rec)(h:Zir T c.ro rec f args lev st=some (.v x,st')):Z0 c T (.call f args lev) st (.v x) st':=by
 cases f with
 | bi b=>exact Zes W h
 | old a =>
  induction lev using Nat.casesOn with
  | zero=>exact no h
  | succ lev =>
   refine fcE h (fun r hr h=>Zfr hX W S hr h) fun r hc h=>lfE h fun lev fr e hf k=>?_;subst e;have h:onV (Zik rec fr (.ref (st.n+1)::args) lev ((st.push (.dict [])).push (.inst a st.n))) (fun x st'=>match x with | .none=>some (.v (.ref (st.n+1)),st') | _=>none)=some (Out.v x,st'):=k;refine ZB h fun y s1 h1 h=>?_
   induction y using MV.casesOn with
   | none=>exact vE h (Z6K h1 fun u0 u0 u0 hb h1 h2 hx=>ZeM hX W hc hf hb h1 (fun L=>S (c.withG L) rfl hX (W.withG L) _ _ _ _ h2) hx)
   | _=>exact no h
 | _=>exact no h
theorem Z7C (S:YU c T rec)(h:Xf.optE rec e ξ st=some (.v a,st')):Zkd c T e ξ st a st':=by
 cases e with
 | none=>exact vE h ⟨rfl,rfl⟩
 | some e=>exact S _ _ _ _ h
theorem ffT {α:Type}{X:Option α}{x:α}(h:(match a,b,d with | false,false,true=>X | _,_,_=>none)=some x)(g:a=false→b=false→d=true→X=some x→G):G:=by
 induction a using Bool.casesOn<;>induction b using Bool.casesOn<;>induction d using Bool.casesOn<;>first | exact g rfl rfl rfl h | exact no h
theorem Zg9 {α:Type}{X:Option α}{x:α}(h:(match a,b,d,e with | true,false,true,true=>X | _,_,_,_=>none)=some x)(g:a=true→b=false→d=true→e=true→X=some x→G):G:=by
 induction a using Bool.casesOn<;>induction b using Bool.casesOn<;>induction d using Bool.casesOn<;>induction e using Bool.casesOn<;>first | exact g rfl rfl rfl rfl h | exact no h
theorem Zf0 {F:List (Str×Nat)→Res}(h:(match a,b,o,d with | true,false,some cs,true=>F cs | _,_,_,_=>none)=some z)(g:∀ cs,a=true→b=false→o=some cs→d=true→F cs=some z→G):G:=by
 cases o with
 | none=>induction a using Bool.casesOn<;>induction b using Bool.casesOn<;>exact no h
 | some cs=>induction a using Bool.casesOn<;>induction b using Bool.casesOn<;>induction d using Bool.casesOn<;>first | exact g cs rfl rfl rfl rfl h | exact no h
theorem Z7Q (W:Z5 c T)(S:YU c T rec)(h:Xf.doComp T c.ro rec elt gens sc ξ st k=some z)
  (g:∀ t iter ifs cs x st1 K,gens=[⟨t,iter,ifs,0⟩]→(Zi sc.kind&&Zi ξ.sc.kind)=true→ZI iter=false→Yc ξ sc.names=some cs→Ja sc.names=true→Z0 c T (.ex iter ξ) st (.v x) st1→ZT T c.ro st1 x K=some z →
   (∀ it st2,K it st2=some z→Zk2 c T elt t ifs sc cs ξ (fun acc st4=>QC (k acc st4) (acc+1)=some z) it st2)→G):G:=by
 have one:∀ {t iter:Expr} {ifs:List Expr},gens=[⟨t,iter,ifs,0⟩]→Xf.doComp T c.ro rec elt [⟨t,iter,ifs,0⟩] sc ξ st k=some z→G:=fun e h =>
  Zf0 h fun cs hf hs hc ha h=>ZB h fun x st1 h1 h=>g _ _ _ cs x st1 _ e hf hs hc ha (S _ _ _ _ h1) h fun it st2 h=>bT h fun hi h=>by
   have h:onU (rec (.comp elt _ _ it st2.n ⟨{ sc with names:=YG ξ sc.names },st2.n+1,cs,ξ.code,ξ.qual,ξ.lev⟩) ((st2.push (.list [])).push (.frame []))) (fun st=>QC (k st2.n st) (st2.n+1))=some z:=h;exact Z70 h fun s4 h4 h=>⟨hi,s4,S _ _ _ _ h4,h⟩
 cases gens with
 | nil=>exact no h
 | cons gen l =>
  obtain ⟨t,iter,ifs,n⟩:=gen
  cases l with
  | cons _ _=>induction n using Int.casesOn with
   | ofNat n=>induction n using Nat.casesOn with
    | _=>exact no h
   | negSucc n=>exact no h
  | nil=>induction n using Int.casesOn with
   | ofNat n=>induction n using Nat.casesOn with
    | zero=>exact one rfl h
    | succ n=>exact no h
   | negSucc n=>exact no h
theorem Z8u (W:Z5 c T)(S:YU c T rec) 
  (h:(match ble ks.length 15&&Q0 ks vs with
  | true=>st.alloc (.dict []) fun d st=>JF (rec (.prs ks vs ξ) st) fun xs st=>(match XY xs,st.get d with
    | some ps,some (.dict [])=>some (.v (.ref d),st.put d (.dict (putAll ps [])))
    | _,_=>none)
  | false=>(match beq ks.length 17&&Q0 ks vs,Zh6 ks vs with
    | true,some ps=>st.alloc (.dict (putAll ps [])) fun d st=>some (.v (.ref d),st)
    | _,_=>none))=some (Out.v x,st')):Z0 c T (.ex (.Dict ks vs pos) ξ) st (.v x) st':=by
 cases hb:ble ks.length 15&&Q0 ks vs with
 | true =>
  rw [hb] at h;have hb:=W0h hb;have h:JF (rec (.prs ks vs ξ) (st.push (.dict []))) (fun xs s1=>(match XY xs,s1.get st.n with
    | some ps,some (.dict [])=>some (.v (.ref st.n),s1.put st.n (.dict (putAll ps [])))
    | _,_=>none))=some (Out.v x,st'):=h
  exact Xh h fun xs s1 h1 h=>pdE h fun ps hp hd h=>vE h (Zd8 W.C (W06 hb.1) hb.2 (S _ _ _ _ h1) hp hd)
 | false =>
  rw [hb] at h;exact boD h fun ps hg hc h=>alE h (Zbn W.C (W09 (W0h hg).1) (W0h hg).2 hc)
theorem ZdD (W:Z5 c T)(S:YU c T rec)(h:Xf T c.ro rec e ξ st=some (.v x,st')):Z0 c T (.ex e ξ) st (.v x) st':=by
 induction e using Expr.casesOn with
 | Constant k kd pos=>exact Zen h fun v hk h=>vE h (Yl hk)
 | Name y pos=>exact bF h fun hd h=>Zen h fun v hv h=>vE h (Z6O W hd hv)
 | BinOp l op r pos=>exact ZB h fun a st1 h1 h=>ZB h fun b st2 h2 h=>JK W (S _ _ _ _ h1) (S _ _ _ _ h2) h
 | UnaryOp op y pos =>
  induction op using UnaryOp.casesOn with
  | USub =>
   refine ZB h fun a st1 h1 h=>?_
   cases a with
   | int i=>exact vE h (Zd3 (S _ _ _ _ h1))
   | _=>exact no h
  | _=>exact no h
 | BoolOp op es pos=>exact Zb1 (S _ _ _ _ h)
 | Compare l ops rs pos =>
  cases ops with
  | nil=>exact no h
  | cons op ops=>cases ops with
   | cons _ _=>exact no h
   | nil=>cases rs with
    | nil=>exact no h
    | cons r rs=>cases rs with
     | cons _ _=>exact no h
     | nil=>exact bF h fun hs h=>ZB h fun a st1 h1 h=>ZB h fun b st2 h2 h=>ZcA h fun d hc h=>vE h (ZbU W hs (S _ _ _ _ h1) (S _ _ _ _ h2) hc)
 | IfExp t b o pos =>
  refine Z7b h fun d st1 h1 h=>Z7U (S _ _ _ _ h1) ?_
  cases d with
  | true=>exact S _ _ _ _ h
  | false=>exact S _ _ _ _ h
 | Tuple es k pos=>exact bF h fun hs h=>Xh h fun xs st1 h1 h=>bT h fun hz h=>alE h (Z8r W hs (S _ _ _ _ h1) (W06 hz))
 | List es pos=>exact bF h fun hs h=>Xh h fun xs st1 h1 h=>bT h fun hz h=>alE h (Z8m W hs (S _ _ _ _ h1) (W06 hz))
 | Dict ks vs pos =>
  cases ks with
  | cons _ _=>exact Z8u W S h
  | nil=>cases vs with
   | nil=>exact alE h (Zbx W.C)
   | cons _ _=>exact Z8u W S h
 | ListComp elt gens sc pos =>
  refine Z7Q W S h fun t iter ifs cs y st1 K e hf hs hc ha h1 h2 hK=>?_;subst e;exact Z5I W hf hs hc ha h1 h2 hK
 | Attribute v y pos=>exact bT' h fun hb h=>ZB h fun o st1 h1 h=>Zen h fun r hr h=>vE h (ZaK W hb (S _ _ _ _ h1) hr)
 | Subscript v i pos =>
  have sub:∀ i,(match XX i with
   | true=>none
   | false=>onV (rec (.ex v ξ) st) fun o st=>onV (rec (.ex i ξ) st) fun i st=>(match YD T c.ro st o i with | some r=>some (.v r,st) | none=>none))=some (Out.v x,st')→Z0 c T (.ex (.Subscript v i pos) ξ) st (.v x) st' :=
   fun i h=>bF h fun hi h=>ZB h fun o st1 h1 h=>ZB h fun i st2 h2 h=>Zen h fun r hr h=>vE h (Q3 W hi (S _ _ _ _ h1) (S _ _ _ _ h2) hr)
  induction i using Expr.casesOn with
  | Slice l u s p=>cases s with
   | none=>exact ZB h fun o st1 h1 h=>ZB h fun a st2 h2 h=>ZB h fun b st3 h3 h=>Zco W (S _ _ _ _ h1) (Z7C S h2) (Z7C S h3) h
   | some _=>exact no h
  | _=>exact sub _ h
 | Call f args kws pos =>
  have gen:∀ f,(match Qz f,args.any Zq,ble args.length 8 with
   | false,false,true=>onV (rec (.ex f ξ) st) fun fv st=>(match YS T fv with | true=>JF (rec (.exs args ξ) st) fun vs st=>rec (.call fv vs ξ.lev) st | false=>none)
   | _,_,_=>none)=some (Out.v x,st')→Z0 c T (.ex (.Call f args [] pos) ξ) st (.v x) st' :=
   fun f h=>ffT h fun hf hs u0 h=>ZB h fun fv st1 h1 h=>bT h fun hfun h=>Xh h fun vs st2 h2 h=>Z58 W hf hs hfun (S _ _ _ _ h1) (S _ _ _ _ h2) (S _ _ _ _ h)
  cases kws with
  | cons _ _=>induction f using Expr.casesOn with
   | _=>exact no h
  | nil=>induction f using Expr.casesOn with
   | Attribute o y ap =>
    refine Zg9 h fun hb hs hl hn h=>ZB h fun ov st1 h1 h=>?_
    cases hm:Qx T c.ro st1 ov y with
    | none=>simp only [hm] at h;exact no h
    | some f =>
     simp only [hm] at h;exact bT h fun hfun h=>Xh h fun vs st2 h2 h=>Zb3 W hb hs hl hn (S _ _ _ _ h1) hm hfun (S _ _ _ _ h2) (S _ _ _ _ h)
   | _=>exact gen _ h
 | _=>exact no h
theorem Zdj (W:Z5 c T)(S:YU c T rec)(h:ZkY T c.ro rec e ξ st=some (.b b,st')):Z0 c T (.tst e ξ) st (.b b) st':=by
 have bE:∀ {d:Bool} {s:St} {P:Bool→St→Prop},some (Out.b d,s)=some (Out.b b,st')→P d s→P b st':=fun h p=>by cases h;exact p
 have gen:∀ e,(match Zhk e with
  | false=>none
  | true=>onV (rec (.ex e ξ) st) fun a st=>match a with | .bool b=>some (.b b,st) | _=>none)=some (Out.b b,st')→Z0 c T (.tst e ξ) st (.b b) st':=fun e h=>bT' h fun hp h=>ZB h fun a s1 h1 h=>by
  cases a with
  | bool d=>exact bE (P:=fun b st'=>Z0 c T (.tst e ξ) st (.b b) st') h (Z8S hp (S _ _ _ _ h1))
  | _=>exact no h
 induction e using Expr.casesOn with
 | UnaryOp op y pos =>
  induction op using UnaryOp.casesOn with
  | Not=>exact Z7b h fun d s1 h1 h=>bE (P:=fun b st'=>Z0 c T (.tst (.UnaryOp .Not y pos) ξ) st (.b b) st') h (Z98 (S _ _ _ _ h1))
  | _=>exact gen _ h
 | BoolOp op es pos=>exact Zbq (S _ _ _ _ h)
 | Compare l ops rs pos =>
  cases ops with
  | nil=>exact no h
  | cons op ops=>cases rs with
   | nil=>cases ops with
    | nil=>exact no h
    | cons o2 ops=>induction ops using List.casesOn with
     | _=>exact no h
   | cons r rs=>cases ops with
    | nil=>cases rs with
     | nil=>exact bF h fun hs h=>ZB h fun a st1 h1 h=>ZB h fun b' st2 h2 h=>ZcA h fun d hc h=>bE (P:=fun b st'=>Z0 c T (.tst (.Compare l [op] [r] pos) ξ) st (.b b) st') h (Z3E W hs (S _ _ _ _ h1) (S _ _ _ _ h2) hc)
     | cons _ _=>exact no h
    | cons o2 ops=>cases ops with
     | cons _ _=>exact no h
     | nil=>cases rs with
      | nil=>exact no h
      | cons r2 rs=>cases rs with
       | cons _ _=>exact no h
       | nil =>
        refine bFF h fun u0 hs h=>ZB h fun x st1 h1 h=>ZB h fun y st2 h2 h=>?_
        cases hc:ZY T c.ro st2 op x y with
        | none=>simp only [hc] at h;exact no h
        | some d =>
         simp only [hc] at h
         cases d with
         | false=>exact bE (P:=fun b st'=>Z0 c T (.tst (.Compare l [op,o2] [r,r2] pos) ξ) st (.b b) st') h (Z6p W hs (S _ _ _ _ h1) (S _ _ _ _ h2) hc nofun fun u0=>⟨rfl,rfl⟩)
         | true=>exact ZB h fun z st3 h3 h=>ZcA h fun d2 hc2 h=>bE (P:=fun b st'=>Z0 c T (.tst (.Compare l [op,o2] [r,r2] pos) ξ) st (.b b) st') h (Z6p W hs (S _ _ _ _ h1) (S _ _ _ _ h2) hc (fun u0=>⟨z,S _ _ _ _ h3,hc2⟩) nofun)
 | _=>exact gen _ h
theorem Za2 {X Y:Res}{z:Out×St}(h:(match b with | true=>X | false=>Y)=some z):(b=true→X=some z)∧(b=false→Y=some z):=by
 induction b using Bool.casesOn
 ·exact ⟨nofun,fun u0=>h⟩
 ·exact ⟨fun u0=>h,nofun⟩
theorem Zba (S:YU c T rec)(h:Zko rec op es ξ st=some (.b b,st')):Z0 c T (.tsts op es ξ) st (.b b) st':=by
 cases es with
 | nil=>cases h;exact ZbZ
 | cons e l=>exact Z7b h fun d s1 h1 h=>ZcU (S _ _ _ _ h1) (fun q=>S _ _ _ _ ((Za2 h).1 q)) fun q=>by cases (Za2 h).2 q;exact ⟨rfl,rfl⟩
theorem ZdH (S:YU c T rec)(h:Zl7 rec op es ξ st=some (.v x,st')):Z0 c T (.bop op es ξ) st (.v x) st':=by
 cases es with
 | nil=>exact no h
 | cons e l=>cases l with
  | nil=>exact ZaN (S _ _ _ _ h)
  | cons e' l =>
   refine ZB h fun a s1 h1 h=>?_
   cases a with
   | bool d=>exact Zdx (S _ _ _ _ h1) (fun q=>S _ _ _ _ ((Za2 h).1 q)) fun q=>by cases (Za2 h).2 q;exact ⟨rfl,rfl⟩
   | _=>exact no h
theorem ZcP (S:YU c T rec)(h:Zlf rec es ξ st=some (.b b,st')):Z0 c T (.ifs es ξ) st (.b b) st':=by
 cases es with
 | nil=>cases h;exact Zdw
 | cons e l=>cases l with
  | nil=>exact ZaR (S _ _ _ _ h)
  | cons _ _=>exact no h
theorem ZdE (W:Z5 c T)(S:YU c T rec)(h:ZkW T c.ro rec t x ξ st=some (.u,st')):Z0 c T (.asg t x ξ) st .u st':=by
 induction t using Expr.casesOn with
 | Name y pos=>exact Z30 h
 | Attribute o y pos=>exact ZB h fun ov s1 h1 h=>Z8q W (S _ _ _ _ h1) h
 | Subscript o i pos=>exact bF h fun u0 h=>ZB h fun ov s1 h1 h=>ZB h fun iv s2 h2 h=>Z2z W (S _ _ _ _ h1) (S _ _ _ _ h2) h
 | Tuple ts k pos =>
  have h:(match ts.any Zq,YE T c.ro st x with
   | false,some xs=>(match beq xs.length ts.length with | true=>rec (.asgs ts xs ξ) st | false=>none)
   | _,_=>none)=some (Out.u,st'):=h
  cases hs:ts.any Zq with
  | true=>rw [hs] at h;exact no h
  | false=>cases hx:YE T c.ro st x with
   | none=>rw [hs,hx] at h;exact no h
   | some xs=>rw [hs,hx] at h;exact bT h fun hl h=>Z6C W hs hx (W09 hl) (S _ _ _ _ h)
 | _=>exact no h
theorem ZbB (S:YU c T rec)(h:Zkr rec ts xs ξ st=some (.u,st')):Z0 c T (.asgs ts xs ξ) st .u st':=by
 cases ts with
 | nil=>cases xs with
  | nil=>cases h;exact Z8B
  | cons _ _=>exact no h
 | cons t ts=>cases xs with
  | nil=>exact no h
  | cons x xs=>exact Z70 h fun s1 h1 h=>ZaY (S _ _ _ _ h1) (S _ _ _ _ h)
theorem Z2I (S:YU c T rec)(h:(match Zjp t v with | false=>none | true=>onV (rec (.ex v ξ) st) fun x st=>onU (rec (.asg t x ξ) st) fun st=>some (.nx,st))=some (o,st')):Z0 c T (.st (.Assign [t] v pos) ξ) st o st' :=
 bT' h fun hg h=>ZB h fun x s1 h1 h=>Z70 h fun s2 h2 h=>oEq h (Z1p hg (S _ _ _ _ h1) (S _ _ _ _ h2))
theorem Zeb (W:Z5 c T)(S:YU c T rec)(h:Zml T c.ro rec t ξ st=some (o,st')):Z0 c T (.st t ξ) st o st':=by
 induction t using Stmt.casesOn with
 | Expr v pos=>exact bT h fun hc h=>ZB h fun x s1 h1 h=>oEq h (Zb7 (W0h hc).1 (W0h hc).2 (S _ _ _ _ h1))
 | Return v pos=>cases v with
  | none=>exact oEq h ZcQ
  | some v=>exact ZB h fun x s1 h1 h=>oEq h (Z8R (S _ _ _ _ h1))
 | Assign ts v pos =>
  cases ts with
  | nil=>exact no h
  | cons t l=>cases l with
   | cons _ _=>induction t using Expr.casesOn with
    | _=>exact no h
   | nil=>induction t using Expr.casesOn with
    | Name y p=>induction v using Expr.casesOn with
     | ListComp elt gens sc vp =>
      have h:(match JJ ξ y p vp sc.names with
       | true=>Xf.doComp T c.ro rec elt gens sc ξ st fun d st=>Zx ξ y (.ref d) st fun st=>some (.nx,st)
       | false=>(match Zi ξ.sc.kind with | true=>onV (rec (.ex (.ListComp elt gens sc vp) ξ) st) fun v st=>onU (rec (.asg (.Name y p) v ξ) st) fun st=>some (.nx,st) | false=>none))=some (o,st'):=h
      cases hh:JJ ξ y p vp sc.names with
      | true =>
       rw [hh] at h;refine Z7Q W S h fun t iter ifs cs y st1 K e hf hs hc ha h1 h2 hK=>?_;subst e;exact Z3u W hh hf hs hc ha h1 h2 hK
      | false =>
       rw [hh] at h;exact bT h fun hfn h=>ZB h fun x s1 h1 h=>Z70 h fun s2 h2 h=>oEq h (Z2l hfn hh (S _ _ _ _ h1) (S _ _ _ _ h2))
     | _=>exact Z2I S h
    | Tuple ts k p=>induction v using Expr.casesOn with
     | Tuple vs k' p' =>
      have h:(match Zje ξ ts vs with
       | none=>none
       | some l=>onV (rec (.ex (.Tuple vs k' p') ξ) st) fun x st=>(match YE T c.ro st x with
        | some xs=>(match beq xs.length l.length with | true=>Yr ξ l.reverse xs.reverse st fun st=>some (.nx,st) | false=>none)
        | none=>none))=some (o,st'):=h
      cases hl:Zje ξ ts vs with
      | none=>rw [hl] at h;exact no h
      | some l=>rw [hl] at h;exact ZB h fun x s1 h1 h=>Zer h fun xs hx h=>bT h fun hn h=>ZaW W hl (S _ _ _ _ h1) hx (W09 hn) h
     | _=>exact Z2I S h
    | _=>exact Z2I S h
 | AugAssign t op v pos=>induction t using Expr.casesOn with
  | Attribute o' x p =>
   refine ZB h fun ov s1 h1 h=>?_
   cases ha:XU T c.ro s1 ov x with
   | none=>rw [ha] at h;exact no h
   | some a =>
    rw [ha] at h
    cases a with
    | int a =>
     refine ZB h fun b s2 h2 h=>?_
     induction op using Operator.casesOn with
     | Add=>cases b with
      | int b=>exact Zf5 W (S _ _ _ _ h1) ha (S _ _ _ _ h2) h
      | _=>exact no h
     | _=>exact no h
    | _=>exact no h
  | _=>exact no h
 | If t b o' pos =>
  refine Z7b h fun d s1 h1 h=>Zcz (S _ _ _ _ h1) ?_
  cases d with
  | true=>exact S _ _ _ _ h
  | false=>exact S _ _ _ _ h
 | While t b l pos=>cases l with
  | nil=>exact Z7T (S _ _ _ _ h)
  | cons _ _=>exact no h
 | For t it b l pos=>cases l with
  | nil=>exact bF h fun hs h=>ZB h fun x s1 h1 h=>Zdm W hs (S _ _ _ _ h1) h fun i s2 h=>S _ _ _ _ h
  | cons _ _=>exact no h
 | Try b hs l1 l2 pos=>cases hs with
  | nil=>exact no h
  | cons _ _=>cases l1 with
   | cons _ _=>exact no h
   | nil=>cases l2 with
    | cons _ _=>exact no h
    | nil=>exact Zfz (S _ _ _ _ h)
 | _=>exact no h
theorem ZcS (S:YU c T rec)(h:Zle rec l ξ st=some (o,st')):Z0 c T (.sts l ξ) st o st':=by
 cases l with
 | nil=>exact oEq h Z8C
 | cons t l=>exact Z9V h (fun s1 h1 h=>QI (S _ _ _ _ h1) (S _ _ _ _ h)) fun x s1 h1 h=>oEq h (Z5i (S _ _ _ _ h1))
theorem Zbt (hX:¬ c.X)(W:Z5 c T)(O:Y4 T)(SG:Zj3 T c.ro rec)(h:step T c.ro rec cmd st=some (o,st')):Z0 c T cmd st o st':=by
 have S:=SG c rfl hX W
 induction cmd using Cmd.casesOn with
 | ex e ξ=>cases o with
  | v x=>exact ZdD W S h
  | _=>trivial
 | exs es ξ=>cases o with
  | vs l=>cases es with
   | nil=>cases h;exact Z8n
   | cons e r=>exact ZB h fun x s1 h1 h=>Xh h fun xs s2 h2 h=>by cases h;exact Z8x (S _ _ _ _ h1) (S _ _ _ _ h2)
  | _=>trivial
 | prs ks vs ξ=>cases o with
  | vs l=>cases ks with
   | nil=>cases vs with
    | nil=>cases h;exact Ze9
    | cons _ _=>exact no h
   | cons k ks=>cases k with
    | none=>exact no h
    | some k=>cases vs with
     | nil=>exact no h
     | cons v vs=>exact ZB h fun x s1 h1 h=>ZB h fun y s2 h2 h=>Xh h fun xs s3 h3 h=>by cases h;exact ZeD (S _ _ _ _ h1) (S _ _ _ _ h2) (S _ _ _ _ h3)
  | _=>trivial
 | tst e ξ=>cases o with
  | b b=>exact Zdj W S h
  | _=>trivial
 | tsts op es ξ=>cases o with
  | b b=>exact Zba S h
  | _=>trivial
 | bop op es ξ=>cases o with
  | v x=>exact ZdH S h
  | _=>trivial
 | ifs es ξ=>cases o with
  | b b=>exact ZcP S h
  | _=>trivial
 | st t ξ=>exact Zeb W S h
 | sts l ξ=>exact ZcS S h
 | asg t x ξ=>cases o with
  | u=>exact ZdE W S h
  | _=>trivial
 | asgs ts xs ξ=>cases o with
  | u=>exact ZbB S h
  | _=>trivial
 | call f args lev =>
  have h:(match T.orc f args lev st with | some r=>some r | none=>Zir T c.ro rec f args lev st)=some (o,st'):=h
  cases hr:T.orc f args lev st with
  | some r=>rw [hr] at h;exact O c hX W _ _ _ _ _ _ (hr.trans h)
  | none =>
   rw [hr] at h
   cases o with
   | v x=>exact Zc6 hX W SG h
   | _=>trivial
 | forl t it body ξ=>exact Z8g h (fun x s1 hx h=>Zdo h fun s2 hl h=>Z70 h fun s3 ha h=>Z9V h (fun s4 hb h=>Z3F W hx hl (S _ _ _ _ ha) (S _ _ _ _ hb) (.inl ⟨rfl,S _ _ _ _ h⟩)) fun v s4 hb h=>oEq h (Z3F W hx hl (S _ _ _ _ ha) (S _ _ _ _ hb) (.inr ⟨v,rfl,rfl,rfl⟩))) fun s1 hx h=>oEq h (Z5l W hx)
 | whl t body ξ =>
  refine Z7b h fun d s1 h1 h=>?_
  cases d with
  | true=>exact Z9V h (fun s2 h2 h=>Zeg (S _ _ _ _ h1) (S _ _ _ _ h2) (S _ _ _ _ h)) fun v s2 h2 h=>oEq h (Zdu (S _ _ _ _ h1) (S _ _ _ _ h2))
  | false=>exact oEq h (ZaB (S _ _ _ _ h1))
 | comp elt t ifs it acc ξ=>cases o with
  | u =>
   have uE:∀ {s:St} {P:St→Prop},some (Out.u,s)=some (Out.u,st')→P s→P st':=fun h p=>by cases h;exact p
   refine Z8g h (fun x s1 hx h=>Zdo h fun s2 hl h=>Z70 h fun s3 ha h=>Z7b h fun d s4 hi h=>?_) fun s1 hx h=>uE (P:=fun st'=>Z0 c T (.comp elt t ifs it acc ξ) st .u st') h (Z9l W hx)
   cases d with
   | true=>exact ZB h fun y s5 he h=>QD h fun xs hg h=>bT h fun hz h=>Z69 W hx hl (S _ _ _ _ ha) (S _ _ _ _ hi) (.inr ⟨rfl,S _ _ _ _ he,hg,W06 hz,rfl⟩) (S _ _ _ _ h)
   | false=>exact Z69 (y:=.none) (st5:=s4) (xs:=[]) W hx hl (S _ _ _ _ ha) (S _ _ _ _ hi) (.inl ⟨rfl,rfl⟩) (S _ _ _ _ h)
  | _=>trivial
theorem Z1I (O:Y4 T)(ro:Tr MObj):∀ n,Zj3 T ro (ev T ro n)
 | 0=>fun u0 u0 u0 u0 u0 u0 u0 u0 h=>no h
 | n+1=>fun c e hX W cmd st o st' h=>Zbt hX W O (e▸Z1I O ro n) (by rw [e]; exact h)
end
noncomputable def Zl (f:Nat→Nat):MV→MV
 | .ref l=>.ref (f l)
 | x=>x
def ZZ (f:Nat→Nat)(l:List (Str×MV)):List (Str×MV):=l.map fun p=>(p.1,Zl f p.2)
noncomputable def renC (f:Nat→Nat)(l:List (Str×Nat)):List (Str×Nat):=l.map fun p=>(p.1,f p.2)
def ZA (f:Nat→Nat):MObj→MObj
 | .tup xs=>.tup (xs.map (Zl f))
 | .list xs=>.list (xs.map (Zl f))
 | .dict es=>.dict (ZZ f es)
 | .fdict es j=>.fdict (ZZ f es) (f j)
 | .inst C d=>.inst C (f d)
 | .frame m=>.frame (ZZ f m)
 | .cell x=>.cell (x.map (Zl f))
 | .lam e sc cs code qual=>.lam e sc (renC f cs) code qual
 | .rng a b c=>.rng a b c
 | .itList l k=>.itList (f l) k
 | .itTup x k=>.itTup (Zl f x) k
 | .itRange a n c=>.itRange a n c
 | .itStr x i=>.itStr x i
 | .itDict d i n=>.itDict (f d) i n
 | .itEnum it k=>.itEnum (f it) k
 | .itEnumO it k j=>.itEnumO (f it) k (f j)
 | .code q=>.code q
 | .src a b l=>.src a b l
 | .tab P ps q es=>.tab P ps q (es.map fun e=>(e.1,e.2.1,f e.2.2))
noncomputable def inV (p:Nat→Bool):MV→Bool
 | .ref l=>p l
 | _=>true
def inD (p:Nat→Bool)(l:List (Str×MV)):Bool:=l.all fun q=>inV p q.2
def inO (p:Nat→Bool):MObj→Bool
 | .tup xs=>xs.all (inV p)
 | .list xs=>xs.all (inV p)
 | .dict es=>inD p es
 | .fdict es j=>inD p es&&p j
 | .inst _ d=>p d
 | .frame m=>inD p m
 | .cell none=>true
 | .cell (some x)=>inV p x
 | .lam _ _ cs _ _=>cs.all fun q=>p q.2
 | .rng ..=>true
 | .itList l _=>p l
 | .itTup x _=>inV p x
 | .itRange ..=>true
 | .itStr ..=>true
 | .itDict d _ _=>p d
 | .itEnum it _=>p it
 | .itEnumO it _ j=>p it&&p j
 | .code _=>true
 | .src ..=>true
 | .tab _ _ _ es=>es.all fun e=>p e.2.2
structure Ren (g:Nat→Nat)(p:Nat→Bool)(ρ ρ':Rho)(n n':Nat):Prop where
 to:∀ i,p i=true→i<n∧g i<n'∧ρ'.a (g i)=ρ.a i∧ρ'.o (g i)=ρ.o i
section
variable {g:Nat→Nat}{p:Nat→Bool}{ρ ρ':Rho}{n n':Nat}{c c':Cfg}{h:Heap}
theorem Ren.v (G:Ren g p ρ ρ' n n'){x:MV}{v:Value}(hx:inV p x=true):x.Is ρ n v↔(Zl g x).Is ρ' n' v:=by
 cases x with
 | ref l =>
  obtain ⟨h1,h2,h3,_⟩:=G.to l hx;show (l<n∧v = .ref (ρ.a l))↔(g l<n'∧v = .ref (ρ'.a (g l)));rw [h3];exact ⟨fun q=>⟨h2,q.2⟩,fun q=>⟨h1,q.2⟩⟩
 | _=>exact Iff.rfl
theorem Ren.vs (G:Ren g p ρ ρ' n n'):∀ {xs:List MV}{vs:List Value},xs.all (inV p)=true→(Are ρ n xs vs↔Are ρ' n' (xs.map (Zl g)) vs)
 | [],[],_=>Iff.rfl
 | x::xs,v::vs,hx=>by
  rw [all_cons,and_eq_true] at hx;show (x.Is ρ n v∧Are ρ n xs vs)↔((Zl g x).Is ρ' n' v∧Are ρ' n' (xs.map (Zl g)) vs);rw [G.v hx.1,Ren.vs G hx.2]
 | [],_::_,_=>Iff.rfl
 | _::_,[],_=>Iff.rfl
theorem Ren.d (G:Ren g p ρ ρ' n n'):∀ {xs:List (Str×MV)}{vs:List (Str×Value)},inD p xs=true→(Zu ρ n xs vs↔Zu ρ' n' (ZZ g xs) vs)
 | [],[],_=>Iff.rfl
 | (k,x)::xs,(j,v)::vs,hx=>by
  (first | delta inD at hx | unfold inD at hx)
  rw [all_cons,and_eq_true] at hx;show (k=j∧x.Is ρ n v∧Zu ρ n xs vs)↔(k=j∧(Zl g x).Is ρ' n' v∧Zu ρ' n' (ZZ g xs) vs);rw [G.v hx.1,Ren.d G hx.2]
 | [],_::_,_=>Iff.rfl
 | (_,_)::_,[],_=>Iff.rfl
theorem Z6D (f:Nat→Nat)(x:Str):∀ m:List (Str×MV),Z2 x (ZZ f m)=(Z2 x m).map (Zl f)
 | []=>rfl
 | (k,v)::r=>by
  show Z2 x ((k,Zl f v)::ZZ f r)=_
  unfold Z2
  cases decide (k=x) with
  | true=>rfl
  | false=>exact Z6D f x r
theorem Z7B:∀ {m:List (Str×MV)}{v:MV},inD p m=true→Z2 x m=some v→inV p v=true
 | [],_,_,h=>by cases h
 | (k,y)::r,v,hi,h=>by
  (first | delta inD at hi | unfold inD at hi)
  rw [all_cons,and_eq_true] at hi;exact bC h (fun u0 h=>injS h fun e=>e▸hi.1) fun u0 h=>Z7B hi.2 h
theorem Ren.m (G:Ren g p ρ ρ' n n'){m:List (Str×MV)}{f:Str→Option Value}(hx:inD p m=true):J9 ρ n m f↔J9 ρ' n' (ZZ g m) f:=by
 unfold J9;refine forall_congr' fun x=>?_;rw [Z6D]
 cases q:Z2 x m with
 | none=>exact Iff.rfl
 | some y =>
  have hy:=Z7B hx q;show (∃ v,f x=some v∧y.Is ρ n v)↔(∃ v,f x=some v∧(Zl g y).Is ρ' n' v);exact exists_congr fun v=>by rw [G.v hy]
theorem Z4C (f:Nat→Nat)(l k:Nat):∀ es:List (Nat×Nat×Nat),ZS l k (es.map fun e=>(e.1,e.2.1,f e.2.2))=(ZS l k es).map f
 | []=>rfl
 | (a,b,j)::r=>by
  show ZS l k ((a,b,f j)::r.map fun e=>(e.1,e.2.1,f e.2.2))=_
  show (match beq a l&&beq b k with | true=>some (f j) | false=>ZS l k (r.map fun e=>(e.1,e.2.1,f e.2.2)))=(match beq a l&&beq b k with | true=>some j | false=>ZS l k r).map f
  cases (beq a l&&beq b k) with
  | true=>rfl
  | false=>exact Z4C f l k r
theorem Ren.at (G:Ren g p ρ ρ' n n')(hp:c'.prog=c.prog)(hw:c'.w=c.w)(ho:inO p o=true)(hi:p i=true):At c ρ n h i o↔At c' ρ' n' h (g i) (ZA g o):=by
 obtain ⟨_,_,ea,eo⟩:=G.to i hi;obtain ⟨prog,w,K,h0,U,ro,d,os⟩:=c;obtain ⟨prog',w',K',h0',U',ro',d',os'⟩:=c';dsimp only at hp hw;subst hp hw
 cases o with
 | tup xs =>
  show (∃ vs ep,h.get? (ρ.a i)=some { cls:=.type "tuple",data:=.seq vs ep }∧Are ρ n xs vs.toList)↔(∃ vs ep,h.get? (ρ'.a (g i))=some { cls:=.type "tuple",data:=.seq vs ep }∧Are ρ' n' (xs.map (Zl g)) vs.toList)
  rw [ea]; exact exists_congr fun vs=>exists_congr fun ep=>by rw [G.vs ho]
 | list xs =>
  show (∃ vs ep,h.get? (ρ.a i)=some { cls:=.type "list",data:=.seq vs ep }∧Are ρ n xs vs.toList)↔(∃ vs ep,h.get? (ρ'.a (g i))=some { cls:=.type "list",data:=.seq vs ep }∧Are ρ' n' (xs.map (Zl g)) vs.toList)
  rw [ea]; exact exists_congr fun vs=>exists_congr fun ep=>by rw [G.vs ho]
 | dict es =>
  show (∃ kvs ep,Dct _ h (ρ.a i) kvs ep∧Zu ρ n es kvs)↔(∃ kvs ep,Dct _ h (ρ'.a (g i)) kvs ep∧Zu ρ' n' (ZZ g es) kvs)
  rw [ea]; exact exists_congr fun vs=>exists_congr fun ep=>by rw [G.d ho]; rfl
 | fdict es j =>
  have ho:(inD p es&&p j)=true:=ho;rw [and_eq_true] at ho;obtain ⟨j1,j2,_,jo⟩:=G.to j ho.2;show (j<n∧∃ kvs,Dct _ h (ρ.a i) kvs (ρ.o j)∧Zu ρ n es kvs)↔(g j<n'∧∃ kvs,Dct _ h (ρ'.a (g i)) kvs (ρ'.o (g j))∧Zu ρ' n' (ZZ g es) kvs);rw [ea,jo];refine and_congr ⟨fun u0=>j2,fun u0=>j1⟩ (exists_congr fun vs=>by rw [G.d ho.1]; rfl)
 | inst C d =>
  obtain ⟨j1,j2,ja,_⟩:=G.to d ho;show (d<n∧h.get? (ρ.a i)=some (instObj C (ρ.a d)))↔(g d<n'∧h.get? (ρ'.a (g i))=some (instObj C (ρ'.a (g d))));rw [ea,ja];exact and_congr ⟨fun u0=>j2,fun u0=>j1⟩ Iff.rfl
 | frame m =>
  show (∃ f,h.Ns (ρ.a i) f∧J9 ρ n m f)↔(∃ f,h.Ns (ρ'.a (g i)) f∧J9 ρ' n' (ZZ g m) f)
  rw [ea]; exact exists_congr fun f=>by rw [G.m ho]
 | cell x=>cases x with
  | none =>
   show (∃ o,h.get? (ρ.a i)=some o∧o.data = .cell none)↔(∃ o,h.get? (ρ'.a (g i))=some o∧o.data = .cell none)
   rw [ea]
  | some x =>
   show (∃ o v,h.get? (ρ.a i)=some o∧o.data = .cell (some v)∧x.Is ρ n v)↔(∃ o v,h.get? (ρ'.a (g i))=some o∧o.data = .cell (some v)∧(Zl g x).Is ρ' n' v)
   rw [ea]; exact exists_congr fun o=>exists_congr fun v=>by rw [G.v ho]
 | lam e sc cs code qual =>
  have ho:(cs.all fun q=>p q.2)=true:=ho;rw [all_eq_true] at ho;have hc:(renC g cs).map (fun p=>(p.1,ρ'.a p.2))=cs.map (fun p=>(p.1,ρ.a p.2)):=by
   unfold renC;rw [map_map];exact W0f fun q hq=>by
    show (q.1,ρ'.a (g q.2))=_
    rw [(G.to q.2 (ho q hq)).2.2.1]
  have hl:(∀ q∈cs,q.2<n)↔(∀ q∈renC g cs,q.2<n'):=by
   constructor
   ·intro _ q hq
    (refine xEA (mem_map.mp hq) ?_;intro r hr o0;subst o0)
    exact (G.to _ (ho r hr)).2.1
   ·intro _ q hq;exact (G.to _ (ho q hq)).1
  show (∃ o fd,h.get? (ρ.a i)=some o∧o.cls = .type "function"∧o.data = .func fd∧fd.body = .expr e∧fd.scope=sc∧fd.closure=cs.map (fun p=>(p.1,ρ.a p.2))∧(∀ p∈cs,p.2<n)∧_) ↔
   (∃ o fd,h.get? (ρ'.a (g i))=some o∧o.cls = .type "function"∧o.data = .func fd∧fd.body = .expr e∧fd.scope=sc∧fd.closure=(renC g cs).map (fun p=>(p.1,ρ'.a p.2))∧(∀ p∈renC g cs,p.2<n')∧_)
  rw [ea,hc];exact exists_congr fun o=>exists_congr fun fd=>by rw [hl]
 | rng a b d=>show (∃ t u v,IsRange h (ρ.a i) a b d t u v)↔(∃ t u v,IsRange h (ρ'.a (g i)) a b d t u v);rw [ea]
 | itList l k =>
  obtain ⟨j1,j2,ja,_⟩:=G.to l ho;show (l<n∧h.IsListIter (ρ.a i) (ρ.a l) k)↔(g l<n'∧h.IsListIter (ρ'.a (g i)) (ρ'.a (g l)) k);rw [ea,ja]; exact and_congr ⟨fun u0=>j2,fun u0=>j1⟩ Iff.rfl
 | itTup x k =>
  show (∃ t,x.Is ρ n (.ref t)∧h.IsTupleIter (ρ.a i) t k)↔(∃ t,(Zl g x).Is ρ' n' (.ref t)∧h.IsTupleIter (ρ'.a (g i)) t k)
  rw [ea]; exact exists_congr fun t=>by rw [G.v ho]
 | itRange a m d=>show IsRangeIter h (ρ.a i) a m d↔IsRangeIter h (ρ'.a (g i)) a m d;rw [ea]
 | itStr x k=>show (∃ t,h.IsStrIter (ρ.a i) _ x t k)↔(∃ t,h.IsStrIter (ρ'.a (g i)) _ x t k);rw [ea]
 | itDict d k m =>
  obtain ⟨j1,j2,ja,_⟩:=G.to d ho;show (d<n∧h.IsKeyIter (ρ.a i) (ρ.a d) k m (ρ.o i))↔(g d<n'∧h.IsKeyIter (ρ'.a (g i)) (ρ'.a (g d)) k m (ρ'.o (g i)));rw [ea,eo,ja]; exact and_congr ⟨fun u0=>j2,fun u0=>j1⟩ Iff.rfl
 | itEnum it k =>
  obtain ⟨j1,j2,ja,_⟩:=G.to it ho;show (it<n∧∃ old,IsEnum h (ρ.a i) (ρ.a it) k old)↔(g it<n'∧∃ old,IsEnum h (ρ'.a (g i)) (ρ'.a (g it)) k old);rw [ea,ja]; exact and_congr ⟨fun u0=>j2,fun u0=>j1⟩ Iff.rfl
 | itEnumO it k j =>
  have ho:(p it&&p j)=true:=ho;rw [and_eq_true] at ho;obtain ⟨j1,j2,ja,_⟩:=G.to it ho.1;obtain ⟨l1,l2,la,_⟩:=G.to j ho.2;show (it<n∧j<n∧∃ x,IsEnumOut h (ρ.a i) (ρ.a it) k x (ρ.a j))↔(g it<n'∧g j<n'∧∃ x,IsEnumOut h (ρ'.a (g i)) (ρ'.a (g it)) k x (ρ'.a (g j)));rw [ea,ja,la]; exact and_congr ⟨fun u0=>j2,fun u0=>j1⟩ (and_congr ⟨fun u0=>l2,fun u0=>l1⟩ Iff.rfl)
 | code q =>
  show (∃ o vs t,h.get? (ρ.a i)=some o∧o.data = .fields vs∧vs[1]?=some (.str q t))↔(∃ o vs t,h.get? (ρ'.a (g i))=some o∧o.data = .fields vs∧vs[1]?=some (.str q t))
  rw [ea]
 | src a b l =>
  show (∃ t u ep,h.get? (ρ.a i)=some { cls:=.type "list",data:=.seq #[.int a t,.int b u] ep }∧Fut a b l)↔(∃ t u ep,h.get? (ρ'.a (g i))=some { cls:=.type "list",data:=.seq #[.int a t,.int b u] ep }∧Fut a b l)
  rw [ea]
 | tab P ps q es =>
  have ho:(es.all fun e=>p e.2.2)=true:=ho;rw [all_eq_true] at ho;have hl:(∀ e∈es,e.2.2<n)↔(∀ e∈es.map (fun e=>(e.1,e.2.1,g e.2.2)),e.2.2<n'):=by
   constructor
   ·intro _ e he
    (refine xEA (mem_map.mp he) ?_;intro r hr o1;subst o1)
    exact (G.to _ (ho r hr)).2.1
   ·intro _ e he;exact (G.to _ (ho e he)).1
  have hk:∀ pos:Pos,((ZS pos.line pos.col es).map fun j=>Value.ref (ρ.a j))=((ZS pos.line pos.col (es.map fun e=>(e.1,e.2.1,g e.2.2))).map fun j=>Value.ref (ρ'.a j)):=by
   intro pos;rw [Z4C]
   cases hq:ZS pos.line pos.col es with
   | none=>rfl
   | some j =>
    show some (Value.ref (ρ.a j))=some (Value.ref (ρ'.a (g j)))
    rw [(G.to j (ho _ (Z1b hq))).2.2.1]
  show (ρ.a i=P∧(∃ more,h.get? (ρ.a i)=some (tabObj (ps++more))∧TriplesOk (ps++more).toList∧∀ pos:Pos,codeAmong pos (ps++more).toList=(ZS pos.line pos.col es).map fun j=>Value.ref (ρ.a j))∧∀ e∈es,e.2.2<n) ↔
   (ρ'.a (g i)=P∧(∃ more,h.get? (ρ'.a (g i))=some (tabObj (ps++more))∧TriplesOk (ps++more).toList∧∀ pos:Pos,codeAmong pos (ps++more).toList=(ZS pos.line pos.col (es.map fun e=>(e.1,e.2.1,g e.2.2))).map fun j=>Value.ref (ρ'.a j))∧∀ e∈es.map (fun e=>(e.1,e.2.1,g e.2.2)),e.2.2<n')
  rw [ea,hl];simp only [hk]
theorem At.kept (x:At c ρ n h i o)(e:h.get? (ρ.a i)=Option.some ob)(k:Yh F ob (h'.get? (ρ.a i))):At c ρ n h' i o:=by
 rcases k with k | ⟨_,hc,sl,k⟩
 ·exact x.heap (k.trans e.symm)
 ·cases o with
  | frame m=>(refine xEA x ?_;(try clear x);intro f o0 q;obtain ⟨o,es,ep,e',r⟩:=o0);rw [e] at e';cases e';exact ⟨f,⟨_,es,ep,k,r⟩,q⟩
  | cell y=>cases y with
   | none=>(refine xEA x ?_;(try clear x);intro o e' r);rw [e] at e';cases e';exact ⟨_,k,r⟩
   | some y=>(refine xEEAA x ?_;(try clear x);intro o v e' r q);rw [e] at e';cases e';exact ⟨_,v,k,r,q⟩
  | tup xs=>(refine xEEA x ?_;(try clear x);intro _ _ e' _);rw [e] at e';cases e';simp [instObj] at hc
  | list xs=>(refine xEEA x ?_;(try clear x);intro _ _ e' _);rw [e] at e';cases e';simp [instObj] at hc
  | dict es=>(refine xEEA x ?_;(try clear x);intro _ _ o1 _;obtain ⟨o,_,e',r,_⟩:=o1);rw [e] at e';cases e';have r:=r.1;rw [hc] at r;simp at r
  | fdict es j=>(refine xAEA x ?_;(try clear x);intro _ _ o2 _;obtain ⟨o,_,e',r,_⟩:=o2);rw [e] at e';cases e';have r:=r.1;rw [hc] at r;simp at r
  | inst C d=>have e':=x.2;rw [e] at e';cases e';simp [instObj] at hc
  | lam=>(refine xEEAA x ?_;(try clear x);intro o _ e' r _);rw [e] at e';cases e';rw [hc] at r;simp at r
  | rng a b d=>(refine xEEE x ?_;(try clear x);intro _ _ _ e');have e':h.get? (ρ.a i)=_:=e';rw [e] at e';cases e';simp [instObj] at hc
  | itList l k=>(refine xAEAA x ?_;(try clear x);intro _ o e' r _);rw [e] at e';cases e';rw [hc] at r;simp at r
  | itTup y k=>(refine xEAEAA x ?_;(try clear x);intro _ _ o e' r _);rw [e] at e';cases e';rw [hc] at r;simp at r
  | itRange a m d=>have e':h.get? (ρ.a i)=_:=x;rw [e] at e';cases e';simp [instObj] at hc
  | itStr y k=>(refine xEEAA x ?_;(try clear x);intro _ o e' r _);rw [e] at e';cases e';rw [hc] at r;(by_cases q:(y.cps.all (·<128))=true<;>simp [q] at r)
  | itDict d k m=>(refine xAEAA x ?_;(try clear x);intro _ o e' r _);rw [e] at e';cases e';rw [hc] at r;simp at r
  | itEnum it k=>(refine xAE x ?_;(try clear x);intro _ _ e');have e':h.get? (ρ.a i)=_:=e';rw [e] at e';cases e';simp [instObj] at hc
  | itEnumO it k l=>(refine xAAE x ?_;(try clear x);intro _ _ _ e');have e':h.get? (ρ.a i)=_:=e';rw [e] at e';cases e';simp [instObj] at hc
  | code q=>(refine xEEEAA x ?_;(try clear x);intro o vs t e' d r);rw [e] at e';cases e';exact ⟨_,vs,t,k,d,r⟩
  | src a b l=>(refine xEEEA x ?_;(try clear x);intro _ _ _ e' _);rw [e] at e';cases e';simp at hc
  | tab P ps q es=>(refine xAA x ?_;(try clear x);intro _ o3 _;obtain ⟨_,e',_⟩:=o3);rw [e] at e';cases e';simp at hc
theorem Yh.trans (k:Yh F o r)(k':∀ o',r=Option.some o'→Yh F o' r'):Yh F o r':=by
 rcases k with k | ⟨f,hc,sl,k⟩
 ·exact k' o k
 ·rcases k' _ k with q | ⟨_,_,sl',q⟩
  ·exact .inr ⟨f,hc,sl,q⟩
  ·exact .inr ⟨f,hc,sl',q⟩
end
noncomputable def below (n:Nat):Nat→Bool:=fun j=>blt j n
theorem Jq:below n j=true↔j<n:=by
 unfold below
 constructor
 ·intro h;exact W06 h
 ·intro h;exact ble_eq_true_of_le h
structure Emb (c:Cfg)(st st0:St)(ro0:Tr MObj)(f:Nat→Nat):Prop where
 lt:∀ i,i<st0.n→f i<st.n
 own:∀ i o,st0.get i=some o→i<st0.n∧inO (below st0.n) o=true∧st.get (f i)=some (ZA f o)
 ro:∀ i o,ro0.get i=some o→i<st0.n∧inO (below st0.n) o=true∧rd c.ro st (f i)=some (ZA f o)∧∀ j oj,st0.get j=some oj→f j≠f i
 inj:∀ i j oi oj,st0.get i=some oi→st0.get j=some oj→f i=f j→i=j
noncomputable def small (c:Cfg)(ρ:Rho)(st0:St)(ro0:Tr MObj)(f:Nat→Nat)(s:Shared):Cfg :=
 { c with h0:=s.heap,U:=fun a=>(∃ o,s.heap.get? a=some o)∧∀ i o,st0.get i=some o→ρ.a (f i)≠a,F:=fun a=>¬ c.U a∨c.F a,G:=fun u0=>False,X:=False,ro:=ro0 }
noncomputable def Rho.of (ρ:Rho)(f:Nat→Nat):Rho:=⟨fun i=>ρ.a (f i),fun i=>ρ.o (f i)⟩
noncomputable def gOf (n0 n:Nat)(new:List Nat)(f:Nat→Nat):Nat→Nat:=fun i=>match blt i n0 with | true=>f i | false=>n+new.idxOf i
def pOf (n0:Nat)(new:List Nat):Nat→Bool:=fun i=>below n0 i||new.contains i
section
variable {c:Cfg}{T:Tab}{ρ:Rho}{st st0 st' st0':St}{ro0:Tr MObj}{f:Nat→Nat}{s s':Shared}
theorem QJ (C:c.Ok)(R:Rel c ρ st s)(M:Emb c st st0 ro0 f)(h:c.U a):(small c ρ st0 ro0 f s).U a:=by
 refine ⟨?_,fun i o e q=>?_⟩
 ·obtain ⟨o,ho⟩:=C.alive a h;exact (R.keep a o ho h).some
 ·have h3:=(R.at_ _ _ (M.own i o e).2.2).2.2;rw [q] at h3;exact h3 h
theorem Z4k (h:c.U a)(hs:¬ c.F a):¬ (small c ρ st0 ro0 f s).F a:=fun q=>q.elim (fun z=>z h) hs
theorem Z9S (C:c.Ok)(R:Rel c ρ st s)(M:Emb c st st0 ro0 f):(small c ρ st0 ro0 f s).Ok:=by
 refine ⟨fun a o e=>?_,fun b h=>h.1,QJ C R M C.sys,Z2E C R,QJ C R M C.limU,Z4k C.limU C.limS⟩;obtain ⟨_,h2,h3⟩:=C.kin a o e;exact ⟨R.kin C a o e,QJ C R M h2,Z4k h2 h3⟩
theorem Z1U (W:Z5 c T)(R:Rel c ρ st s)(M:Emb c st st0 ro0 f):Z5 (small c ρ st0 ro0 f s) T:=by
 refine ⟨⟨?_,fun a r h=>⟨(W.X.fn a r h).keep,(W.X.fn a r h).fd⟩,fun a xs h=>W.X.base a xs h⟩,fun C r h=>?_,Z9S W.C R M⟩
 ·obtain ⟨mg,mb,h1,h2,h3,h4,h5,h6,h7⟩:=W.X.glob;exact ⟨mg,mb,Z7c R h1 h3 h5,Z7c R h2 h4 h6,QJ W.C R M h3,QJ W.C R M h4,Z4k h3 h5,Z4k h4 h6,h7⟩
 ·have k:=W.Y C r h;exact ⟨k.keep,k.ga,k.gh,k.sa,k.over,k.dict,k.attrs,k.meths,k.makes,k.init,k.data⟩
theorem Emb.ren (M:Emb c st st0 ro0 f):Ren f (below st0.n) (ρ.of f) ρ st0.n st.n :=
 ⟨fun i h=>⟨Jq.mp h,M.lt i (Jq.mp h),rfl,rfl⟩⟩
theorem Z1H (C:c.Ok)(R:Rel c ρ st s)(M:Emb c st st0 ro0 f):Rel (small c ρ st0 ro0 f s) (ρ.of f) st0 s:=by
 have G:=M.ren (ρ:=ρ);refine ⟨fun u0 h=>h.elim,fun i o e=>?_,fun i j oi oj ei ej q=>?_,fun i o e=>?_,fun b o e hu=>.inl e,R.gens,R.os,R.drawn⟩
 ·obtain ⟨h1,h2,h3⟩:=M.own i o e;refine ⟨h1,(G.at (c:=small c ρ st0 ro0 f s) (c':=c) rfl rfl h2 (Jq.mpr h1)).mpr (R.at_ _ _ h3).2.1,fun q=>q.2 i o e rfl⟩
 ·exact M.inj i j oi oj ei ej (R.inj _ _ _ _ (M.own i oi ei).2.2 (M.own j oj ej).2.2 q)
 ·obtain ⟨h1,h2,h3,h4⟩:=M.ro i o e;have z:=ZL R h3;refine ⟨h1,(G.at (c:=small c ρ st0 ro0 f s) (c':=c) rfl rfl h2 (Jq.mpr h1)).mpr z.2,⟨z.2.some,fun j oj ej q=>?_⟩,fun q=>?_⟩
  ·have hj:=R.at_ _ _ (M.own j oj ej).2.2
   (first | delta rd at h3 | unfold rd at h3)
   cases hg:st.get (f i) with
   | some o'=>exact h4 j oj ej (R.inj _ _ _ _ (M.own j oj ej).2.2 hg q)
   | none =>
    rw [hg] at h3;have:=(R.ro _ _ h3).2.2.1;exact hj.2.2 (by rw [q]; exact this)
  ·(first | delta rd at h3 | unfold rd at h3)
   have q:ρ.a (f i)=sysModules:=q
   cases hg:st.get (f i) with
   | some o'=>exact (R.at_ _ _ hg).2.2 (q▸C.sys)
   | none=>rw [hg] at h3;exact (R.ro _ _ h3).2.2.2 q
def Zjl (st st0 st0' st':St)(new:List Nat)(f:Nat→Nat):Prop:=∀ j o,st'.get j=some o→(j<st.n∧st.get j=some o∧∀ i oi,st0.get i=some oi→f i≠j) ∨
 (∃ i o',pOf st0.n new i=true∧st0'.get i=some o'∧j=gOf st0.n st.n new f i∧inO (pOf st0.n new) o'=true∧o=ZA (gOf st0.n st.n new f) o')
theorem ZcI (f:Nat→Nat)(o:MObj):fy (ZA f o)=fy o:=by induction o using MObj.casesOn<;>rfl
theorem ZaE (f:Nat→Nat)(o:MObj):ZE (ZA f o)=ZE o:=by induction o using MObj.casesOn<;>rfl
theorem Z2w (C:c.Ok)(R:Rel c ρ st s)(M:Emb c st st0 ro0 f)(hn:st'.n=st.n+new.length)(hnew:∀ i∈new,st0.n≤i∧i<st0'.n)(cl:Zjl st st0 st0' st' new f)(hfr:∀ i o,st0.get i=some o→fy o=false→∃ o',st0'.get i=some o'∧fy o'=false∧(ZE o=true→ZE o'=true))
  (z:Z7 (small c ρ st0 ro0 f s) (ρ.of f) st0.n st0' s' P0) (hP:∀ ρ0' ρ',Ren (gOf st0.n st.n new f) (pOf st0.n new) ρ0' ρ' st0'.n st'.n→P0 ρ0'→P ρ'):Z7 c ρ st.n st' s' P:=by
 obtain ⟨ρ0',g0,n0,R0,hp0⟩:=z
 let ρ':Rho:=⟨fun j=>if j<st.n then ρ.a j else ρ0'.a (new.getD (j - st.n) 0),fun j=>if j<st.n then ρ.o j else ρ0'.o (new.getD (j - st.n) 0)⟩
 have g:Ag ρ ρ' st.n:=fun i hi=>⟨if_pos hi,if_pos hi⟩;have hle:st.n≤st'.n:=by rw [hn]; exact W07 _ _
 have G:Ren (gOf st0.n st.n new f) (pOf st0.n new) ρ0' ρ' st0'.n st'.n:=by
  refine ⟨fun i hi=>?_⟩;by_cases h:i<st0.n
  ·have hb:blt i st0.n=true:=Jq.mpr h;have e:gOf st0.n st.n new f i=f i:=by unfold gOf;rw [hb]
   have hf:=M.lt i h;rw [e,(g _ hf).1,(g _ hf).2,(g0 i h).1,(g0 i h).2];exact ⟨W00 h n0,W00 hf hle,rfl,rfl⟩
  ·have hb:blt i st0.n=false:=by
    cases q:blt i st0.n with
    | false=>rfl
    | true=>exact absurd (Jq.mp q) h
   have e:gOf st0.n st.n new f i=st.n+new.idxOf i:=by unfold gOf;rw [hb]
   have hm:i∈new:=by
    (first | delta pOf below at hi | unfold pOf below at hi)
    rw [hb,Bool.false_or] at hi;exact List.contains_iff_mem.mp hi
   have hlt:new.idxOf i<new.length:=List.idxOf_lt_length_of_mem hm;have hget:new.getD (st.n+new.idxOf i - st.n) 0=i:=by
    rw [Nat.add_sub_cancel_left,List.getD_eq_getElem?_getD,getElem?_eq_getElem hlt,List.getElem_idxOf]; rfl
   have hnl:¬ st.n+new.idxOf i<st.n:=by omega
   rw [e];refine ⟨(hnew i hm).2,by rw [hn]; omega,?_,?_⟩
   ·show (if _ then _ else _)=_
    rw [if_neg hnl,hget]
   ·show (if _ then _ else _)=_
    rw [if_neg hnl,hget]
 have smallOf:∀ j o,st.get j=some o→(∀ i oi,st0.get i=some oi→f i≠j)→(small c ρ st0 ro0 f s).U (ρ.a j):=by
  intro j o e hne;exact ⟨(R.at_ j o e).2.1.some,fun i oi ei q=>hne i oi ei (R.inj _ _ _ _ (M.own i oi ei).2.2 e q)⟩
 have kept:∀ j o,At c ρ st.n s.heap j o→(small c ρ st0 ro0 f s).U (ρ.a j)→At c ρ st.n s'.heap j o:=by
  intro j o x hu;obtain ⟨ob,hob⟩:=x.some;exact x.kept hob (R0.keep _ ob hob hu)
 have hgr:∀ L,c.G L→(∃ o,s'.heap.get? L=some o∧∀ vs,o.data ≠ .fields vs)∧¬ c.U L∧∀ j o,st'.get j=some o→ρ'.a j=L→ZE o=true:=by
  intro L h
  (refine xAA (R.big L h) ?_;intro o0 hu' hfL;obtain ⟨ob,e,d⟩:=o0)
  have own0:∀ i o,st0.get i=some o→ρ.a (f i)=L→∃ o',st0'.get i=some o'∧fy o'=false∧ZE o'=true:=by
   intro i o ei q;subst q;have hat:=(R.at_ _ _ (M.own i o ei).2.2).2.1;have h0:fy (ZA f o)=false:=by
    cases hz:fy (ZA f o) with
    | false=>rfl
    | true=>(refine xEEA (hat.isfy hz) ?_;intro ob' vs e' d');rw [e] at e';cases e';exact absurd d' (d vs)
   have h1:fy o=false:=(ZcI f o).symm.trans h0;have h2:ZE o=true:=(ZaE f o).symm.trans (hfL _ _ (M.own i o ei).2.2 rfl)
   (refine xEAA (hfr i o ei h1) ?_;intro o' e' f' f2)
   exact ⟨o',e',f',f2 h2⟩
  have uOf:(∀ i o,st0.get i=some o→ρ.a (f i)≠L)→(small c ρ st0 ro0 f s).U L:=fun q=>⟨⟨ob,e⟩,q⟩;refine ⟨?_,hu',fun j o ej q=>?_⟩
  ·by_cases q:∃ i o,st0.get i=some o∧ρ.a (f i)=L
   ·obtain ⟨i,o,ei,q⟩:=q
    (refine xEAA (own0 i o ei q) ?_;intro o' e' f' _)
    (refine xEA ((R0.at_ i o' e').2.1.nofy f') ?_;intro ob' e'' d'')
    rw [(g0 i (M.own i o ei).1).1] at e'';have e'':s'.heap.get? (ρ.a (f i))=some ob':=e'';rw [q] at e'';exact ⟨ob',e'',d''⟩
   ·rcases R0.keep L ob e (uOf fun i o ei z=>q ⟨i,o,ei,z⟩) with k | ⟨_,_,sl,k⟩
    ·exact ⟨ob,k,d⟩
    ·exact ⟨_,k,d⟩
  ·rcases cl j o ej with ⟨h1,h2,_⟩ | ⟨i,o',hp,h2,rfl,h4,rfl⟩
   ·rw [(g j h1).1] at q;exact hfL j o h2 q
   ·rw [(G.to i hp).2.2.1] at q;have hnu:=(R0.at_ i o' h2).2.2;rw [q] at hnu;by_cases z:∃ i o,st0.get i=some o∧ρ.a (f i)=L
    ·(refine xEEA z ?_;(try clear z);intro i' o'' ei' q')
     obtain ⟨o3,e3,_,f3⟩:=own0 i' o'' ei' q';have:i'=i:=R0.inj i' i _ _ e3 h2 (by rw [(g0 i' (M.own i' o'' ei').1).1,q]; exact q');subst this;rw [h2] at e3
     cases e3
     exact (ZaE _ o').trans f3
    ·exact absurd (uOf fun i o ei w=>z ⟨i,o,ei,w⟩) hnu
 refine ⟨ρ',g,hle,⟨hgr,fun j o e=>?_,fun j l oj ol ej el q=>?_,fun i o e=>?_,fun b o e hu=>?_,R0.gens,R0.os,R0.drawn⟩,hP ρ0' ρ' G hp0⟩
 ·rcases cl j o e with ⟨h1,h2,h3⟩ | ⟨i,o',hp,h2,rfl,h4,rfl⟩
  ·refine ⟨W00 h1 hle,(kept j o (R.at_ j o h2).2.1 (smallOf j o h2 h3)).mono g hle h1,?_⟩;rw [(g j h1).1]; exact (R.at_ j o h2).2.2
  ·obtain ⟨k1,k2,k3⟩:=R0.at_ i o' h2;refine ⟨(G.to i hp).2.1,(G.at (c:=small c ρ st0 ro0 f s) (c':=c) rfl rfl h4 hp).mp k2,fun hu=>k3 ?_⟩;rw [(G.to i hp).2.2.1] at hu;exact QJ C R M hu
 ·rcases cl j oj ej with ⟨h1,h2,h3⟩ | ⟨i,o',hp,h2,rfl,h4,rfl⟩<;>rcases cl l ol el with ⟨k1,k2,k3⟩ | ⟨i',o'',hp',k2,rfl,k4,rfl⟩
  ·rw [(g j h1).1,(g l k1).1] at q;exact R.inj _ _ _ _ h2 k2 q
  ·rw [(g j h1).1,(G.to i' hp').2.2.1] at q;have:=(R0.at_ i' o'' k2).2.2;rw [← q] at this;exact absurd (smallOf j oj h2 h3) this
  ·rw [(g l k1).1,(G.to i hp).2.2.1] at q;have:=(R0.at_ i o' h2).2.2;rw [q] at this;exact absurd (smallOf l ol k2 k3) this
  ·rw [(G.to i hp).2.2.1,(G.to i' hp').2.2.1] at q;rw [R0.inj _ _ _ _ h2 k2 q]
 ·obtain ⟨h1,h2,h3,h4⟩:=R.ro i o e;refine ⟨W00 h1 hle,(kept i o h2 (QJ C R M h3)).mono g hle h1,?_,?_⟩<;>rw [(g i h1).1]<;>assumption
 ·exact (R.keep b o e hu).trans fun o' ho'=>(R0.keep b o' ho' (QJ C R M hu)).imp fun q=>q.elim (fun z=>absurd hu z) id
theorem Zg.small (r:Zg c A lev):Zg (small c ρ st0 ro0 f s) A lev:=⟨r.hh,r.depth,r.units,fun h=>h.elim⟩
theorem Z2R (W:Z5 c T)(O:Y4 T)(run:ev T ro0 N (.call fn args lev) st0=some (.v x,st0'))(M:Emb c st st0 ro0 f)
  (hf:inV (below st0.n) fn=true) (ha:args.all (inV (below st0.n))=true) (hx:inV (pOf st0.n new) x=true) (hn:st'.n=st.n+new.length) (hnew:∀ i∈new,st0.n≤i∧i<st0'.n) (cl:Zjl st st0 st0' st' new f) (hfr:∀ i o,st0.get i=some o→fy o=false→∃ o',st0'.get i=some o'∧fy o'=false∧(ZE o=true→ZE o'=true)) :
  Z0 c T (.call (Zl f fn) (args.map (Zl f)) lev) st (.v (Zl (gOf st0.n st.n new f) x)) st':=by
 intro A ρ s E fv vs rm R hfv hvs;have W0:=Z1U (T:=T) W R M;have G:=M.ren (ρ:=ρ);refine wpAny_mono (Z1I O _ N _ rfl id W0 _ _ _ _ run A (ρ.of f) s E fv vs rm.small (Z1H W.C R M) ((G.v hf).mpr hfv) ((G.vs ha).mpr hvs)) (fun v s' z=>?_) fun u0 u0 z=>z;exact Z2w W.C R M hn hnew cl hfr z fun ρ0' ρ' G' hv=>(G'.v hx).mp hv
def QK (f:Nat→Nat)(ξ:Z3):Z3:={ ξ with loc:=f ξ.loc,cells:=renC f ξ.cells }
theorem Z4O (f:Nat→Nat)(x:Str):∀ m:List (Str×Nat),Y6 x (renC f m)=(Y6 x m).map f
 | []=>rfl
 | (k,v)::r=>by
  show Y6 x ((k,f v)::renC f r)=_
  show (match decide (k=x) with | true=>some (f v) | false=>Y6 x (renC f r))=(match decide (k=x) with | true=>some v | false=>Y6 x r).map f
  cases decide (k=x) with
  | true=>rfl
  | false=>exact Z4O f x r
noncomputable def inE (p:Nat→Bool)(ξ:Z3):Bool:=p ξ.loc&&ξ.cells.all fun q=>p q.2
theorem Z2Y (M:Emb c st st0 ro0 f)(hi:inE (below st0.n) ξ=true)(e:Zc ρ st.n (QK f ξ) env):Zc (ρ.of f) st0.n ξ env:=by
 (first | delta inE at hi | unfold inE at hi)
 rw [and_eq_true,all_eq_true] at hi;refine ⟨e.sc,Jq.mp hi.1,e.loc,fun x j h=>?_,e.globals,e.builtins,e.code,e.qual⟩;have h':Y6 x (QK f ξ).cells=some (f j):=by show Y6 x (renC f ξ.cells)=_;rw [Z4O,h]; rfl
 exact ⟨Jq.mp (hi.2 _ (Xk h)),(e.cells x _ h').2⟩
def Zim (f:Nat→Nat):Out→Out
 | .v x=>.v (Zl f x)
 | .vs l=>.vs (l.map (Zl f))
 | .ret x=>.ret (Zl f x)
 | o=>o
def Qf (p:Nat→Bool):Out→Bool
 | .v x=>inV p x
 | .vs l=>l.all (inV p)
 | .ret x=>inV p x
 | _=>true
theorem Z6o (G:Ren g p ρ ρ' n n')(ho:Qf p o=true)(h:Qd ρ n o fl):Qd ρ' n' (Zim g o) fl:=by
 cases o with
 | nx=>exact h
 | ret x=>obtain ⟨v,e,hv⟩:=h;exact ⟨v,e,(G.v ho).mp hv⟩
 | _=>exact h
theorem Z9R (W:Z5 c T)(O:Y4 T)(run:ev T ro0 N (.sts l ξ) st0=some (o,st0'))(M:Emb c st st0 ro0 f)
  (hi:inE (below st0.n) ξ=true) (hx:Qf (pOf st0.n new) o=true) (hn:st'.n=st.n+new.length) (hnew:∀ i∈new,st0.n≤i∧i<st0'.n) (cl:Zjl st st0 st0' st' new f) (hfr:∀ i o,st0.get i=some o→fy o=false→∃ o',st0'.get i=some o'∧fy o'=false∧(ZE o=true→ZE o'=true)) :
  Z0 c T (.sts l (QK f ξ)) st (Zim (gOf st0.n st.n new f) o) st':=by
 intro A ρ env s E r e R;have W0:=Z1U (T:=T) W R M;refine wpAny_mono (Z1I O _ N _ rfl id W0 _ _ _ _ run A (ρ.of f) env s E r.small (Z2Y M hi e) (Z1H W.C R M)) (fun v s' z=>?_) fun u0 u0 z=>z;exact Z2w W.C R M hn hnew cl hfr z fun ρ0' ρ' G' hv=>Z6o G' hx hv
theorem Zcq (W:Z5 c T)(O:Y4 T)(run:ev T ro0 N (.st l ξ) st0=some (o,st0'))(M:Emb c st st0 ro0 f)
  (hi:inE (below st0.n) ξ=true) (hx:Qf (pOf st0.n new) o=true) (hn:st'.n=st.n+new.length) (hnew:∀ i∈new,st0.n≤i∧i<st0'.n) (cl:Zjl st st0 st0' st' new f) (hfr:∀ i o,st0.get i=some o→fy o=false→∃ o',st0'.get i=some o'∧fy o'=false∧(ZE o=true→ZE o'=true)) :
  Z0 c T (.st l (QK f ξ)) st (Zim (gOf st0.n st.n new f) o) st':=by
 intro A ρ env s E r e R;have W0:=Z1U (T:=T) W R M;refine wpAny_mono (Z1I O _ N _ rfl id W0 _ _ _ _ run A (ρ.of f) env s E r.small (Z2Y M hi e) (Z1H W.C R M)) (fun v s' z=>?_) fun u0 u0 z=>z;exact Z2w W.C R M hn hnew cl hfr z fun ρ0' ρ' G' hv=>Z6o G' hx hv
theorem ZbY (W:Z5 c T)(O:Y4 T)(run:ev T ro0 N (.ex l ξ) st0=some (.v x,st0'))(M:Emb c st st0 ro0 f)
  (hi:inE (below st0.n) ξ=true) (hx:inV (pOf st0.n new) x=true) (hn:st'.n=st.n+new.length) (hnew:∀ i∈new,st0.n≤i∧i<st0'.n) (cl:Zjl st st0 st0' st' new f) (hfr:∀ i o,st0.get i=some o→fy o=false→∃ o',st0'.get i=some o'∧fy o'=false∧(ZE o=true→ZE o'=true)) :
  Z0 c T (.ex l (QK f ξ)) st (.v (Zl (gOf st0.n st.n new f) x)) st':=by
 intro A ρ env s E r e R;have W0:=Z1U (T:=T) W R M;refine wpAny_mono (Z1I O _ N _ rfl id W0 _ _ _ _ run A (ρ.of f) env s E r.small (Z2Y M hi e) (Z1H W.C R M)) (fun v s' z=>?_) fun u0 u0 z=>z;exact Z2w W.C R M hn hnew cl hfr z fun ρ0' ρ' G' hv=>(G'.v hx).mp hv
end
def St.Eqv (a b:St):Prop:=a.n=b.n∧∀ i,a.get i=b.get i
section
variable {c:Cfg}{T:Tab}{ρ:Rho}{st st' st1 st2 st3:St}{s:Shared}
theorem Rel.eqv (R:Rel c ρ st s)(h:St.Eqv st st1):Rel c ρ st1 s :=
 ⟨fun L g=>xAA (R.big L g) fun a b d=>⟨a,b,fun i o e q=>d i o (by rw [h.2]; exact e) q⟩,fun i o e=>by rw [← h.1]; exact R.at_ i o (by rw [h.2]; exact e),fun i j oi oj ei ej q=>R.inj i j oi oj (by rw [h.2]; exact ei) (by rw [h.2]; exact ej) q,fun i o e=>by rw [← h.1]; exact R.ro i o e,R.keep,R.gens,R.os,R.drawn⟩
theorem Z7.eqv (z:Z7 c ρ n st s P)(h:St.Eqv st st1)(hp:∀ ρ',P ρ'→P' ρ'):Z7 c ρ n st1 s P':=by
 obtain ⟨ρ',g,k,R,p⟩:=z;exact ⟨ρ',g,by rw [← h.1]; exact k,R.eqv h,hp _ p⟩
theorem Zbu (m:Z0 c T (.call f args lev) st (.v x) st1)(h:St.Eqv st1 st2):Z0 c T (.call f args lev) st (.v x) st2:=by
 intro A ρ s E fv vs rm R hf ha;exact wpAny_mono (m A ρ s E fv vs rm R hf ha) (fun v s' z=>z.eqv h fun ρ' p=>by rw [← h.1]; exact p) fun u0 u0 z=>z
theorem Za8 (m:Z0 c T (.sts l ξ) st1 o st2)(h:St.Eqv st st1):Z0 c T (.sts l ξ) st o st2:=by
 intro A ρ env s E rm e0 R;rw [h.1] at e0 ⊢;exact m A ρ env s E rm e0 (R.eqv h)
end
noncomputable def Jc:List Str→List MV→List (Str×MV)→List (Str×MV)
 | x::xs,v::vs,m=>Jc xs vs (Zh x v m)
 | _,_,m=>m
theorem Z1z (hk:Zi ξ.sc.kind=true):∀ {ps:List Str}{bs:List MV}{m:List (Str×MV)}{st:St},(∀ x∈ps,kindOf x ξ.sc.names=some .local)→ps.length=bs.length→st.get ξ.loc=some (.frame m) →
  ∃ st1,Yr ξ ps bs st (fun s=>some (.u,s))=some (.u,st1)∧st1.n=st.n∧st1.get ξ.loc=some (.frame (Jc ps bs m))∧∀ i,i≠ξ.loc→st1.get i=st.get i
 | [],[],m,st,_,_,hg=>⟨st,rfl,rfl,hg,fun u0 u0=>rfl⟩
 | x::ps,v::bs,m,st,hl,hn,hg=>by
  obtain ⟨st1,h1,h2,h3,h4⟩:=Z1z hk (ps:=ps) (bs:=bs) (m:=Zh x v m) (st:=st.put ξ.loc (.frame (Zh x v m))) (fun y hy=>hl y (W0e _ hy)) (Nat.succ.inj hn) (by rw [St.get_put,if_pos rfl]);refine ⟨st1,?_,h2,h3,fun i hi=>by rw [h4 i hi,St.get_put,if_neg hi]⟩;unfold Yr Zx;rw [hk,hl x List.mem_cons_self];dsimp only;rw [hg];exact h1
 | [],_::_,_,_,_,h,_=>by cases h
 | _::_,[],_,_,_,h,_=>by cases h
noncomputable def Xm:List (Str×NameKind)→Bool
 | []=>true
 | (_,.cell)::_=>false
 | _::r=>Xm r
theorem Z1A:∀ {names:List (Str×NameKind)}{st:St},Xm names=true→YR names st k=k st
 | [],_,_=>rfl
 | (x,kd)::r,st,h=>by
  induction kd using PySem.NameKind.casesOn<;>first | cases h | exact Z1A (names:=r) h
def Zhz (names:List (Str×NameKind))(ps:List Str):Bool:=ps.all fun x=>match kindOf x names with | some .local=>true | _=>false
theorem Z3d {st:St}(hk:Zi r.sc.kind=true)(hc:Xm r.sc.names=true)(hl:Zhz r.sc.names r.ps=true)(hn:r.ps.length=bs.length) :
  ∃ st1,ZO r bs lev st=some (.u,st1)∧St.Eqv st1 (st.push (.frame (Jc r.ps bs []))):=by
 have hl':∀ x∈r.ps,kindOf x (Zv r st.n lev).sc.names=some .local:=fun x hx=>by
  have h:(match kindOf x r.sc.names with | some .local=>true | _=>false)=true:=all_eq_true.mp hl x hx;show kindOf x r.sc.names=_
  cases q:kindOf x r.sc.names with
  | none=>rw [q] at h;exact noB h
  | some k =>
   rw [q] at h
   induction k using PySem.NameKind.casesOn with
   | «local»=>rfl
   | _=>exact noB h
 obtain ⟨st1,h1,h2,h3,h4⟩:=Z1z (ξ:=Zv r st.n lev) hk (ps:=r.ps) (bs:=bs) (m:=[]) (st:=st.push (.frame [])) hl' hn (by show (st.push _).get st.n=_;rw [St.get_push,if_pos rfl]);refine ⟨st1,?_,h2,fun i=>?_⟩
 ·unfold ZO;rw [Z1A hc];exact h1
 ·rw [St.get_push];by_cases hi:i=st.n
  ·rw [if_pos hi,hi]; exact h3
  ·rw [if_neg hi,h4 i hi,St.get_push,if_neg hi]
theorem Z9x {st st':St}(W:Z5 c T)(hr:T.fn a=some r)(hb:Yw r.ps r.dfl args=some bs)(hk:Zi r.sc.kind=true)(hc:Xm r.sc.names=true)(hl:Zhz r.sc.names r.ps=true)(hn:r.ps.length=bs.length)
  (h2:∀ L,Z0 (c.withG L) T (.sts r.body (Zv r st.n lev)) (st.push (.frame (Jc r.ps bs []))) o st') (hx:JL o=some x):Z0 c T (.call (.old a) args (lev+1)) st (.v x) st':=by
 obtain ⟨st1,h1,e⟩:=Z3d (st:=st) (lev:=lev) hk hc hl hn;exact ZdB W hr hb h1 (fun L=>Za8 (h2 L) e) hx
theorem Z1T {α:Type}{v:α}{l:List (Str×α)}(h:n≠p):List.lookup n ((p,v)::l)=List.lookup n l:=by
 rw [lookup_cons,Q1];simp [h]
theorem Z36 {α:Type}{v:α}{l:List (Str×α)}:List.lookup n ((n,v)::l)=some v:=by
 rw [lookup_cons,Q1];simp
theorem Z8K:∀ {ps:List Str}{vals:List Value},ps.Nodup→vals.length=ps.length →
  ps.filter (fun n=>(List.lookup n (ps.zip vals)).isNone)=[]∧ps.filterMap (fun n=>Option.map (fun x=>(n,x)) (List.lookup n (ps.zip vals)))=ps.zip vals
 | [],vals,_,_=>⟨rfl,rfl⟩
 | p::ps,[],_,h=>by cases h
 | p::ps,v::vals,hn,h=>by
  obtain ⟨h1,h2⟩:=nodup_cons.mp hn;obtain ⟨i1,i2⟩:=Z8K h2 (by simpa using h);rw [List.zip_cons_cons];have e:∀ n∈ps,List.lookup n ((p,v)::ps.zip vals)=List.lookup n (ps.zip vals):=fun n hn=>Z1T (fun q=>h1 (q▸hn))
  constructor
  ·rw [List.filter_cons,Z36];rw [← i1];exact List.filter_congr fun n hn=>by rw [e n hn]
  ·rw [filterMap_cons,Z36];simp only [Option.map_some]
   congr 1
   rw [← i2];rw [i2]
   conv=>rhs;rw [← i2]
   clear i1 i2 h hn;have:∀ l:List Str,(∀ n∈l,n∈ps)→l.filterMap (fun n=>Option.map (fun x=>(n,x)) (List.lookup n ((p,v)::ps.zip vals)))=l.filterMap (fun n=>Option.map (fun x=>(n,x)) (List.lookup n (ps.zip vals))):=by
    intro l
    induction l with
    | nil=>intro _;rfl
    | cons a l ih =>
     intro hl;rw [filterMap_cons,filterMap_cons,e a (hl a List.mem_cons_self),ih fun n hn=>hl n (List.mem_cons_of_mem _ hn)]
   exact this ps fun u0 h=>h
noncomputable def Zi7 (np nd:Nat):Bool:=beq nd 0||(beq np 2&&beq nd 1)||(beq np 3&&beq nd 1)||(beq np 3&&beq nd 2)
theorem Z34 (f:Str×Value→List (Str×Value)→Sem (ForInStep (List (Str×Value))))(hf:∀ n d l,f (n,d) l=if (List.lookup n l).isNone=true then pure (.yield (l++[(n,d)])) else pure (.yield l)) :
  ∀ (r l:List (Str×Value)),(r.map (·.1)).Nodup→forIn r l f=pure (l++r.filter fun p=>(List.lookup p.1 l).isNone)
 | [],l,_=>by rw [List.forIn_nil,List.filter_nil,append_nil]
 | (n,d)::r,l,h=>by
  obtain ⟨h1,h2⟩:=nodup_cons.mp h;rw [forIn_cons,hf,List.filter_cons]
  cases q:(List.lookup n l).isNone with
  | true =>
   rw [if_pos rfl,if_pos rfl,pure_bind];refine (Z34 f hf r _ h2).trans ?_;rw [append_assoc];refine congrArg (fun z=>pure (l++((n,d)::z))) (List.filter_congr fun p hp=>?_);have e:p.1≠n:=fun e=>h1 (mem_map.mpr ⟨p,hp,e⟩);rw [List.lookup_append,Z1T e]
   cases List.lookup p.1 l<;>rfl
  | false =>
   rw [if_neg Bool.false_ne_true,if_neg Bool.false_ne_true,pure_bind];exact Z34 f hf r l h2
theorem Z28:∀ {ps:List Str}{vs:List Value},n∈ps→ps.length≤vs.length→(List.lookup n (ps.zip vs)).isNone=false
 | [],_,h,_=>nomatch h
 | _::_,[],_,h=>absurd h (Nat.not_succ_le_zero _)
 | p::ps,v::vs,h,hl=>by
  rw [List.zip_cons_cons];by_cases e:n=p
  ·rw [e,Z36]; rfl
  ·rw [Z1T e];exact Z28 ((W0i h).resolve_left e) (Nat.le_of_succ_le_succ hl)
theorem Z4A:∀ {ps:List Str}{vs:List Value},n∉ps→(List.lookup n (ps.zip vs)).isNone=true
 | [],_,_=>rfl
 | _::_,[],_=>rfl
 | p::ps,v::vs,h=>by
  rw [List.zip_cons_cons,Z1T fun e=>h (mem_cons.mpr (.inl e))];exact Z4A fun q=>h (W0e _ q)
theorem Z4j:∀ {ps:List Str}{vs:List Value},ps.zip vs=(ps.take vs.length).zip vs
 | [],_=>by rw [List.take_nil]
 | _::_,[]=>rfl
 | p::_,v::_=>congrArg ((p,v)::·) Z4j
theorem Z79 (h:Zi7 n d=true):d≤n:=by
 (first | delta Zi7 at h | unfold Zi7 at h)
 simp only [or_eq_true,and_eq_true] at h;rcases h with ((h | ⟨h,h'⟩) | ⟨h,h'⟩) | ⟨h,h'⟩
 ·rw [eq_of_beq_eq_true h]; exact Nat.zero_le _
 all_goals rw [eq_of_beq_eq_true h,eq_of_beq_eq_true h']; decide
theorem ar1 {n v d:Nat}(h1:n≤v+d)(h2:d≤n):(n - d)+(v+d - n)=v:=(add_comm _ _).trans ((Nat.sub_add_sub_cancel h1 h2).trans (Nat.add_sub_cancel ..))
theorem ar2 {n v d:Nat}(h1:v≤n)(h2:n≤v+d):v+(d - (v+d - n))=n:=(Nat.add_sub_assoc (Nat.sub_le_of_le_add (add_comm v d▸Nat.add_le_add_left h1 d)) v).symm.trans (Nat.sub_sub_self h2)
theorem Zbl {ps:List Str}{vals ds:List Value}(hn:ps.Nodup)(hle:vals.length≤ps.length)(hds:ps.length≤vals.length+ds.length)(hd:ds.length≤ps.length) :
  ps.zip vals++((ps.drop (ps.length - ds.length)).zip ds).filter (fun p=>(List.lookup p.1 (ps.zip vals)).isNone)=ps.zip (vals++ds.drop (vals.length+ds.length - ps.length)):=by
 have hj:(ps.drop (ps.length - ds.length)).zip ds=((ps.drop (ps.length - ds.length)).take (vals.length+ds.length - ps.length)).zip (ds.take (vals.length+ds.length - ps.length))++(ps.drop vals.length).zip (ds.drop (vals.length+ds.length - ps.length)):=by
  have e:ps.drop vals.length=(ps.drop (ps.length - ds.length)).drop (vals.length+ds.length - ps.length):=by rw [drop_drop,ar1 hds hd]
  rw [e,← List.zip_append (by rw [length_take,length_take,length_drop,Nat.sub_sub_self hd]),List.take_append_drop,List.take_append_drop]
 have hsp:ps=ps.take vals.length++ps.drop vals.length:=(List.take_append_drop _ _).symm;have hdis:=(List.nodup_append.mp (hsp▸hn)).2.2;have hz:ps.zip vals=(ps.take vals.length).zip vals:=Z4j;rw [hj,List.filter_append,List.filter_eq_nil_iff.mpr,List.nil_append,List.filter_eq_self.mpr]
 ·have e:ps.zip (vals++ds.drop (vals.length+ds.length - ps.length))=(ps.take vals.length++ps.drop vals.length).zip (vals++ds.drop (vals.length+ds.length - ps.length)):=by rw [← hsp]
  rw [e,List.zip_append (List.length_take_of_le hle),← hz]
 ·intro p hp;rw [hz];exact Z4A fun q=>hdis _ q _ (List.of_mem_zip hp).1 rfl
 ·intro p hp;rw [hz,Z28 ?_ (List.length_take_le _ _)]
  ·exact Bool.false_ne_true
  ·have:=(List.of_mem_zip hp).1
   obtain ⟨i,hi,e⟩:=List.mem_iff_getElem.mp this;rw [← e,List.getElem_take,List.getElem_drop];rw [length_take,length_drop] at hi;exact List.mem_take_iff_getElem.mpr ⟨_,Nat.lt_min.mpr ⟨Nat.lt_of_lt_of_eq (add_lt_add_left (W00 hi (Nat.min_le_left _ _)) _) (ar1 hds hd),W00 (add_lt_add_left (W00 hi (Nat.min_le_right _ _)) _) (W0b (Nat.add_sub_cancel' (Nat.sub_le _ _)))⟩,rfl⟩
theorem ZcM {l:List Str}(h:l=[]):(!l.isEmpty)=false:=by subst h;rfl
theorem ZcG {α:Type}{M:Model}{A:Around}{c:Bool}{X Y:Sem α}{Q:α→Shared→Prop}{E:Value→Shared→Prop}{s:Shared}(h:c=false)(p:wpAny M A Y Q E s):wpAny M A (if c=true then X else Y) Q E s:=by subst h;exact p
theorem Zfy {α β:Type}{M:Model}{A:Around}{x:Sem α}{a:α}{f:α→Sem β}{Q:β→Shared→Prop}{E:Value→Shared→Prop}{s:Shared}(h:x=pure a)(p:wpAny M A (f a) Q E s):wpAny M A (x >>= f) Q E s:=by subst h;exact W0j (W0k p)
theorem Zbf {ps:List Str}{vals ds:List Value}(hds:ps.length≤vals.length+ds.length):(ps.take (ps.length - ds.length)).filter (fun n=>(List.lookup n (ps.zip vals)).isNone)=[]:=by
 refine List.filter_eq_nil_iff.mpr fun n hn=>?_;rw [Z4j,Z28 ?_ (Nat.le_trans (Nat.le_of_eq length_take) (Nat.min_le_left _ _))]
 ·exact Bool.false_ne_true
 ·refine xE (List.mem_take_iff_getElem.mp hn) fun i hi=>Exists.elim hi fun hi e=>?_;exact List.mem_take_iff_getElem.mpr ⟨i,Nat.lt_min.mpr ⟨W00 hi (W01 (Nat.min_le_left _ _) (Nat.sub_le_of_le_add hds)),W00 hi (Nat.min_le_right _ _)⟩,e⟩
theorem Z9q {ps:List Str}{vals ds:List Value}(hl:ds.length≤ps.length)(hds:ps.length≤vals.length+ds.length):(ps.take (ps.length - (ds.drop (ds.length - ps.length)).length)).filter (fun n=>(List.lookup n (ps.zip vals)).isNone)=[]:=by
 rw [Nat.sub_eq_zero_of_le hl];exact Zbf hds
theorem Z9y {ps:List Str}{vals ds:List Value}(hn:ps.Nodup)(hle:vals.length≤ps.length)(hds:ps.length≤vals.length+ds.length)(hl:ds.length≤ps.length) :
  forIn (m:=Sem) ((ps.drop (ps.length - (ds.drop (ds.length - ps.length)).length)).zip (ds.drop (ds.length - ps.length))) (ps.zip vals) (fun p l=>if (List.lookup p.1 l).isNone=true then pure (.yield (l++[(p.1,p.2)])) else pure (.yield l))=pure (ps.zip (vals++ds.drop (vals.length+ds.length - ps.length))):=by
 rw [Nat.sub_eq_zero_of_le hl];refine (Z34 _ (fun u0 u0 u0=>rfl) _ _ ?_).trans (congrArg pure (Zbl hn hle hds hl));exact (congrArg List.Nodup (List.map_fst_zip (l₂:=ds) (W0b (length_drop.trans (Nat.sub_sub_self hl))))).mpr (hn.sublist (List.drop_sublist _ _))
theorem Zfi (h1:fd.params.posonlyargs=[])(h2:fd.params.args.map (·.arg)=ps)(h3:fd.params.kwonlyargs=[])(h4:fd.params.vararg=none)(h5:fd.params.kwarg=none)
  (hdv:(dv.getD #[]).toList=ds) (hd:∀ Q',Q' dv s→wpAny M A (seqItems? fd.defaults) Q' E s) (hle:vals.length≤ps.length) (hds:ps.length≤vals.length+ds.length) (hs:Zi7 ps.length ds.length=true) (hn:ps.Nodup)
  (hq:Q (ps.zip (vals++ds.drop (vals.length+ds.length - ps.length))) s):wpAny M A (bindArgs fd ⟨vals,[]⟩) Q E s:=by
 have hl:=Z79 hs;rcases fd with ⟨qn,nm,⟨po,ar,va,ko,kd,kw⟩,_,_,_,_,_,_,_,_,_,_,_,_⟩
 have h1:po=[]:=h1;have h3:ko=[]:=h3;have h4:va=none:=h4;have h5:kw=none:=h5;have h2:ar.map (·.arg)=ps:=h2;subst h1 h2 h3 h4 h5 hdv;refine W0j (W0k (W0j (hd _ (ZcG ((congrArg (·&&_) (decide_eq_false (W0m hle))).trans (Bool.false_and _)) (ZcG (ZcM ?_) ?_)))))
 ·exact Z9q hl hds
 refine Zfy (a:=(ar.map (·.arg)).zip (vals++(dv.getD #[]).toList.drop (vals.length+(dv.getD #[]).toList.length - (ar.map (·.arg)).length))) (Z9y hn hle hds hl) (W0j (W0k (W0k ?_)));refine Eq.mpr (congrArg (Q · s) ((congrArg (List.filterMap _) (append_nil _)).trans (Z8K hn ?_).2)) hq;exact length_append.trans ((congrArg _ length_drop).trans (ar2 hle hds))
theorem bSp {γ:Type _}{X Y z:γ}{G:Prop}(h:(match b with | true=>X | false=>Y)=z)(g:b=true→X=z→G)(g':b=false→Y=z→G):G:=by
 cases b with
 | true=>exact g rfl h
 | false=>exact g' rfl h
noncomputable def ivT:Value→Option Int
 | .int j _=>some j
 | _=>none
noncomputable def sv:Value→Option Str
 | .str y _=>some y
 | _=>none
noncomputable def rv:Value→Option Addr
 | .ref a=>some a
 | _=>none
theorem Zg2 (h:ivT v=some i):∃ t,v = .int i t:=by
 induction v using Value.casesOn with
 | int j t=>exact ⟨t,congrArg (Value.int · t) (W0g h)⟩
 | _=>exact no h
theorem Zg5 (h:sv v=some x):∃ t,v = .str x t:=by
 induction v using Value.casesOn with
 | str y t=>exact ⟨t,congrArg (Value.str · t) (W0g h)⟩
 | _=>exact no h
theorem Zg0 (h:rv v=some a):v = .ref a:=by
 induction v using Value.casesOn with
 | ref b=>exact congrArg Value.ref (W0g h)
 | _=>exact no h
def sqv:Data→Option (Array Value)
 | .seq vs _=>some vs
 | _=>none
noncomputable def fdv:Data→Option FuncData
 | .func fd=>some fd
 | _=>none
noncomputable def esv:Data→Option (Array DictEntry)
 | .dict es _=>some es
 | _=>none
theorem Ze4 (h:sqv d=some vs):∃ ep,d = .seq vs ep:=by
 induction d using Data.casesOn with
 | seq y t=>exact ⟨t,congrArg (Data.seq · t) (W0g h)⟩
 | _=>exact no h
theorem ZcO (h:fdv d=some fd):d = .func fd:=by
 induction d using Data.casesOn with
 | func f=>exact congrArg Data.func (W0g h)
 | _=>exact no h
theorem ZeQ (h:esv d=some es):∃ ep,d = .dict es ep:=by
 induction d using Data.casesOn with
 | dict y t=>exact ⟨t,congrArg (Data.dict · t) (W0g h)⟩
 | _=>exact no h
section
variable {α β:Type}{x:β}{G:Prop}
noncomputable def kB (o:Option α)(F:α→Bool):Bool:=match o with | some y=>F y | none=>false
theorem JM (h:kB o F=true)(g:∀ y,o=some y→F y=true→G):G:=by
 cases o with
 | none=>exact noB h
 | some y=>exact g y rfl h
noncomputable def kO (o:Option α)(F:α→Option β):Option β:=match o with | some y=>F y | none=>none
theorem Zeq (h:kO o F=some x)(g:∀ y,o=some y→F y=some x→G):G:=by
 cases o with
 | none=>exact no h
 | some y=>exact g y rfl h
end
def isV (x:MV)(v:Value):Bool:=match x with
 | .none=>decide (v = .none)
 | .bool a=>decide (v = .bool a)
 | .int i=>decide (ivT v=some i)
 | .str y=>decide (sv v=some y)
 | .old a=>decide (v = .ref a)
 | .bi b=>v==b.val
 | .ref _=>false
theorem Z7z (h:isV x v=true)(ρ:Rho)(n:Nat):x.Is ρ n v:=by
 induction x using MV.casesOn with
 | none=>exact of_decide_eq_true (p:=v = .none) h
 | bool a=>exact of_decide_eq_true (p:=v = .bool a) h
 | int i=>exact Zg2 (of_decide_eq_true h)
 | str y=>exact Zg5 (of_decide_eq_true h)
 | old a=>exact of_decide_eq_true (p:=v = .ref a) h
 | bi b=>exact eq_of_beq h
 | ref i=>exact noB h
noncomputable def Zlq:List MV→List Value→Bool
 | [],vs=>vs.isEmpty
 | x::xs,vs=>(match vs with | v::vs=>isV x v&&Zlq xs vs | []=>false)
theorem Z5O:∀ {xs:List MV}{vs:List Value},Zlq xs vs=true→∀ (ρ:Rho)(n:Nat),Are ρ n xs vs
 | [],[],_,_,_=>trivial
 | x::xs,v::vs,h,ρ,n=>⟨Z7z (W0h h).1 ρ n,Z5O (W0h h).2 ρ n⟩
 | [],_::_,h,_,_=>noB h
 | _::_,[],h,_,_=>noB h
noncomputable abbrev FV:=Value×FuncBody×Scope×List (Str×Addr)×Addr×Addr×Value×Str×List Str×List Str×List Str×Bool×Bool
def fnV (K:Frag)(a:Addr):Option FV:=kO (K.lookup a) fun o=>kO (fdv o.data) fun fd=>some (o.cls,fd.body,fd.scope,fd.closure,fd.globals,fd.builtins,fd.code,fd.qualname,fd.params.posonlyargs.map (·.arg),fd.params.args.map (·.arg),fd.params.kwonlyargs.map (·.arg),fd.params.vararg.isNone,fd.params.kwarg.isNone)
def fnE (r:ZF):FV:=(.type "function",.stmts r.body,r.sc,[],mainGlobals,builtinsNs,r.code,r.qual,[],r.ps,[],true,true)
def Zmm (K:Frag)(v:Value)(l:List MV):Bool:=(decide (v = .none)&&l.isEmpty)||kB (rv v) fun t=>kB (K.lookup t) fun o=>kB (sqv o.data) fun vs=>Zlq l vs.toList
def Zmw (K:Frag)(a:Addr)(r:ZF):Bool:=kB (K.lookup a) fun o=>kB (fdv o.data) fun fd=>Zmm K fd.defaults r.dfl
noncomputable def ZjH:List Str→Bool
 | []=>true
 | x::r=>!JE x r&&ZjH r
theorem Z6B:∀ {l:List Str},JE x l=true→x∈l
 | [],h=>noB h
 | y::r,h=>bSp (show (match decide (y=x) with | true=>true | false=>JE x r)=true from h) (fun q u0=>of_decide_eq_true q▸W0d) fun u0 h=>W0e _ (Z6B h)
theorem Z6j:∀ {l:List Str},x∈l→JE x l=true
 | y::r,h=>by
  show (match decide (y=x) with | true=>true | false=>JE x r)=true
  by_cases q:y=x
  ·rw [decide_eq_true q]
  ·rw [decide_eq_false q];exact Z6j ((W0i h).resolve_left (Ne.symm q))
theorem Z56:∀ {l:List Str},ZjH l=true→l.Nodup
 | [],_=>nodup_nil
 | x::r,h=>by
  have h:=W0h h;exact nodup_cons.mpr ⟨fun q=>absurd h.1 (by rw [Z6j q]; exact Bool.false_ne_true),Z56 h.2⟩
def fnC (K:Frag)(a:Addr)(r:ZF):Bool:=keepIn K (.ref a)&&codeIn K r.code r.qual&&Zmw K a r&&!r.sc.isCoroutine&&!r.sc.isGenerator&&Zi r.sc.kind&&Zi7 r.ps.length r.dfl.length&&ZjH r.ps
section
variable {c:Cfg}{ρ:Rho}
theorem Z9m (h1:fnV c.K a=some (fnE r))(h2:fnC c.K a r=true):ZcB c a r:=by
 (first | delta fnC at h2 | unfold fnC at h2)
 simp only [and_eq_true,not_eq_true'] at h2
 (refine xA h2 ?_;(try clear h2);intro o0 c8;obtain ⟨⟨⟨⟨⟨⟨c1,c2⟩,c3⟩,c4⟩,c5⟩,c6⟩,c7⟩:=o0)
 refine ⟨c1,?_⟩;refine Zeq h1 ?_;clear h1;intro o ho h1;refine Zeq h1 ?_;clear h1;intro fd hd h1;have hd:=ZcO hd;have h1:=W0g h1
 (first | delta fnE at h1 | unfold fnE at h1)
 simp only [Prod.mk.injEq] at h1
 (refine xAAAAAAAA h1 ?_;(try clear h1);intro e1 e2 e3 e4 e5 e6 e7 e8 o1;refine xAAAA o1 ?_;clear o1;intro e9 e10 e11 e12 e13)
 refine ⟨o,fd,ho,e1,hd,e2,e3,e4,e5,e6,by rw [e3]; exact c4,by rw [e3]; exact c5,by rw [e3]; exact Q2 c6,e7,e8,fun h X=>?_,?_⟩
 ·rw [e7,e8]; exact codeRec_of X c2
 ·intro s ρ n args bs vals X ha hb;have hlen:=ha.length;refine bTT hb ?_;intro b1 b2 hb
  cases hb
  have b1:=W06 b1;have b2:=W06 b2;have hdf:∃ (dv:Option (Array Value)) (ds:List Value),(dv.getD #[]).toList=ds∧Are ρ n r.dfl ds∧∀ (A:Around) (M:Model) (E:Value→Shared→Prop) (Q':Option (Array Value)→Shared→Prop),Q' dv s→wpAny M A (seqItems? fd.defaults) Q' E s:=by
   refine JM c3 ?_;intro o' ho' c3
   cases (W0g (ho.symm.trans ho'))
   refine JM c3 ?_;intro fd' hd' c3
   cases (Data.func.inj (hd.symm.trans (ZcO hd')))
   rcases Bool.or_eq_true_iff.mp c3 with c3 | c3
   ·have c3:=W0h c3;refine ⟨none,[],rfl,?_,fun A M E Q' hq=>?_⟩
    ·rw [List.isEmpty_iff.mp c3.2]; exact trivial
    ·rw [of_decide_eq_true c3.1];show wpAny M A (do notAStandIn .none;pure none) Q' E s;exact W0j (W0k (W0k hq))
   ·refine JM c3 ?_;intro t q c3;refine JM c3 ?_;intro od hk c3;refine JM c3 ?_;intro vs hv c3;refine xE (Ze4 hv) ?_;intro ep hv;refine ⟨some vs,vs.toList,rfl,Z5O c3 ρ n,fun A M E Q' hq=>?_⟩;rw [Zg0 q];exact wpAny_seqItems (X _ _ hk) hv hq
  obtain ⟨dv,ds,d1,d2,d3⟩:=hdf;have hdl:=d2.length;have e10':fd.params.args.map (·.arg)=r.ps:=e10;refine ⟨vals++ds.drop (vals.length+ds.length - r.ps.length),?_,?_,?_⟩
  ·rw [hlen,hdl]; exact ha.append (d2.drop _)
  ·intro M A E Q hq;refine Zfi (ps:=r.ps) (List.map_eq_nil_iff.mp e9) e10' (List.map_eq_nil_iff.mp e11) (isNone_iff_eq_none.mp e12) (isNone_iff_eq_none.mp e13) d1 (d3 A M E) (by omega) (by omega) (by rw [hdl]; exact c7) (Z56 c8) hq
  ·rw [length_append,length_drop]; omega
noncomputable def Zks:Data→Bool
 | .cls _=>true
 | _=>false
theorem Z9u (h:Zks d=true):∃ cd,d = .cls cd:=by
 induction d using Data.casesOn with
 | cls cd=>exact ⟨cd,rfl⟩
 | _=>exact noB h
def Zln (K:Frag)(C:Nat)(r:Qu):Bool :=
 keepIn K (.ref C)&&(findIn K (.ref C) "__getattribute__"==some (some (.builtin "object.__getattribute__")))&&(findIn K (.ref C) "__getattr__"==some none)&&(findIn K (.ref C) "__setattr__"==some (some (.builtin "object.__setattr__"))) &&
 plainOver K C&&(clsIn K C).any (·.hasDict)&&r.attrs.all (fun x=>findIn K (.ref C) x==some none)&&r.ms.all (fun p=>findIn K (.ref C) p.1==some (some (.ref p.2))&&typeIn K (.ref p.2)==some (.type "function"))&&makesIn K C &&
 (findIn K (.ref C) "__init__"==some (some (.ref r.init))&&typeIn K (.ref r.init)==some (.type "function"))&&kB (K.lookup C) fun o=>decide (o.cls = .type "type")&&Zks o.data
theorem Z9W (h:Zln c.K C r=true):Z6V c C r:=by
 (first | delta Zln at h | unfold Zln at h)
 simp only [and_eq_true,all_eq_true,beq_iff_eq] at h
 (refine xA h ?_;(try clear h);intro o0 h11;obtain ⟨⟨⟨⟨⟨⟨⟨⟨⟨h1,h2⟩,h3⟩,h4⟩,h5⟩,h6⟩,h7⟩,h8⟩,h9⟩,h10⟩:=o0)
 refine ⟨h1,h2,h3,h4,h5,h6,fun x hx=>h7 x (Z6B hx),fun x f hf=>h8 (x,f) (Xk hf),h9,h10,?_⟩;refine JM h11 ?_;intro o ho h11;have h11:=W0h h11;exact ⟨o,ho,Z9u h11.2,of_decide_eq_true h11.1⟩
def Zl0 (K:Frag)(a:Nat)(xs:List MV):Bool:=kB (K.lookup a) fun o=>decide (o.cls = .type "tuple")&&o.dict.isNone&&beq o.slots.size 0&&kB (sqv o.data) fun vs=>Zlq xs vs.toList
theorem Z7R (h:Zl0 c.K a xs=true):∃ o vs ep,c.K.lookup a=some o∧o={ cls:=.type "tuple",data:=.seq vs ep }∧∀ ρ n,Are ρ n xs vs.toList:=by
 refine JM h ?_;intro o ho h;have h:=W0h h;have h1:=W0h h.1;have h2:=W0h h1.1;refine JM h.2 ?_;intro vs hv hr;refine xE (Ze4 hv) ?_;intro ep hv;refine ⟨o,vs,ep,ho,?_,fun ρ n=>Z5O hr ρ n⟩
 induction o using Obj.casesOn with | _ cls dict data slots =>
 have e1:cls = .type "tuple":=of_decide_eq_true h2.1;have e2:dict=none:=isNone_iff_eq_none.mp h2.2;have e3:slots=#[]:=Array.eq_empty_of_size_eq_zero (W09 h1.2);have e4:data = .seq vs ep:=hv;rw [e1,e2,e3,e4]
theorem Z2C {α:Type}{v:α}:∀ {l:List (Nat×α)},ZkS n l=some v→(n,v)∈l
 | [],h=>by cases h
 | (k,y)::r,h=>by
  exact bSp (show (match beq k n with | true=>some y | false=>ZkS n r)=some v from h) (fun q h=>W0g h▸W09 q▸W0d) fun u0 h=>W0e _ (Z2C h)
def Qg (K:Frag)(a:Addr)(x:Str):Option (Option Value):=kO (K.lookup a) fun o=>kO (esv o.data) fun es=>some (nsFind es x)
theorem ZaV {K:Frag}{G:Prop}(h:Qg K a x=some u)(g:∀ o es ep,K.lookup a=some o→o.data = .dict es ep→nsFind es x=u→G):G:=by
 refine Zeq h ?_;intro o ho h;refine Zeq h ?_;intro es hs h;refine xE (ZeQ hs) ?_;intro ep hs;exact g o es ep ho hs (W0g h)
def ZlK (K:Frag)(p:Str×MV):Bool:=kB (Qg K mainGlobals p.1) fun u=>(match u with | some u=>isV p.2 u | none=>kB (Qg K builtinsNs p.1) fun u=>kB u (isV p.2))
noncomputable def Q4 (K:Frag)(a:Addr):List Stmt:=match K.lookup a with
 | some o=>(match o.data with | .func fd=>(match fd.body with | .stmts l=>l | _=>[]) | _=>[])
 | none=>[]
def ZiH (K:Frag):Bool:=(Qc (Q4 K 28)).all (fun p=>fnC K p.1 p.2)&&Zkf.all (fun p=>Zln K p.1 p.2)&&ZjF.all (fun p=>Zl0 K p.1 p.2)&&Zjz.all (ZlK K)
theorem Z3S {α β:Type}{f g:α→β}:∀ {l:List α},l.map f=l.map g→∀ x∈l,f x=g x
 | a::l,h,x,hx=>by
  simp only [map_cons,List.cons.injEq] at h;rcases W0i hx with rfl | hx
  ·exact h.1
  ·exact Z3S h.2 x hx
theorem ZcY (C:c.Ok)(h1:(Qc (Q4 c.K 28)).map (fun p=>fnV c.K p.1)=(Qc (Q4 c.K 28)).map (fun p=>some (fnE p.2)))(h2:ZiH c.K=true)(hg:c.h0.Ns mainGlobals mg)(hb:c.h0.Ns builtinsNs mb)
  (ug:c.U mainGlobals) (ub:c.U builtinsNs) (sg:¬ c.F mainGlobals) (sb:¬ c.F builtinsNs):Z5 c (Z1 (Q4 c.K 28) orc):=by
 (first | delta ZiH at h2 | unfold ZiH at h2)
 simp only [and_eq_true,all_eq_true] at h2
 (refine xA h2 ?_;(try clear h2);intro o0 k4;obtain ⟨⟨k1,k2⟩,k3⟩:=o0)
 have ns:∀ {a:Addr} {m:Str→Option Value} {x:Str} {u:Option Value},c.h0.Ns a m→Qg c.K a x=some u→m x=u:=by
  intro a m x u hn hu;obtain ⟨o,es,ep,e1,e2,_,e4⟩:=hn;refine ZaV hu ?_;intro o' es' ep' ho hd q;have:=(C.kin _ _ ho).1;rw [e1] at this
  cases (W0g this)
  have hd:=e2.symm.trans hd;rw [← e4 x,(Data.dict.inj hd).1];exact q
 refine ⟨⟨⟨mg,mb,hg,hb,ug,ub,sg,sb,fun x v hx=>?_⟩,fun a r h=>?_,fun a xs h=>Z7R (k3 _ (Z2C h))⟩,fun C' r h=>Z9W (k2 _ (Z2C h)),C⟩
 ·have hc:=k4 _ (Z59 hx);refine JM hc ?_;intro u hu hc
  cases u with
  | some u=>exact ⟨u,fun ρ n=>Z7z hc ρ n,.inl (ns hg hu)⟩
  | none =>
   refine JM hc ?_;intro u hu' hc;refine JM hc ?_;intro u q hc;rw [q] at hu';exact ⟨u,fun ρ n=>Z7z hc ρ n,.inr ⟨ns hg hu,ns hb hu'⟩⟩
 ·have hm:=Z2C h;exact Z9m (Z3S h1 _ hm) (k1 _ hm)
end
noncomputable def Zil (C B:Nat):List Value:=[.ref C,.ref B,.type "Exception",.type "BaseException",.type "object"]
def ZkR (K:Frag)(C B:Nat):Bool:=(match clsIn K C with | some cd=>cd.hasDict&&(cd.mro==Zil C B) | none=>false)&&(findIn K (.ref C) "__setattr__"==some (some (.builtin "object.__setattr__")))&&(findIn K (.ref C) "message"==some none)
section
variable {prog:Program}{w:World}{A:Around}{E:Value→Shared→Prop}{s:Shared}{K:Frag}
theorem Z75 (h:ZkR K C B=true):∃ cd,clsIn K C=some cd∧cd.hasDict=true∧cd.mro=Zil C B∧findIn K (.ref C) "__setattr__"=some (some (.builtin "object.__setattr__"))∧findIn K (.ref C) "message"=some none:=by
 have h:=W0h h;have h':=W0h h.1;have h1:(match clsIn K C with | some cd=>cd.hasDict&&(cd.mro==Zil C B) | none=>false)=true:=h'.1
 cases hc:clsIn K C with
 | none=>rw [hc] at h1;exact noB h1
 | some cd =>
  rw [hc] at h1;have h1:=W0h h1;exact ⟨cd,rfl,h1.1,eq_of_beq h1.2,eq_of_beq h'.2,eq_of_beq h.2⟩
theorem ZdV (h:l=Zil C B):l.isEmpty=false:=by subst h;rfl
theorem Z5C (X:K.In s.heap)(hc:ZkR K C B=true)(hx:s.heap.get? e=some { cls:=.ref C,data:=.fields vs })
  (hq:∀ h' tk d,(∀ b o,b≠e→s.heap.get? b=some o→h'.get? b=some o)→h'.get? e=some { cls:=.ref C,dict:=some d,data:=.fields vs }→Q () { s with heap:=h',toks:=tk }) :
  wpAny (model prog w) A (setAttr (.ref e) "message" v) Q E s:=by
 obtain ⟨cd,h1,h2,h3,h4,h5⟩:=Z75 hc;have I:InstAt s.heap e { cls:=.ref C,data:=.fields vs } C none:=⟨hx,rfl,rfl,trivial⟩;refine set_plain X I h4 ?_;have I1:InstAt ({ s with toks:=s.toks+1 }:Shared).heap e { cls:=.ref C,data:=.fields vs } C none:=I;have X1:K.In ({ s with toks:=s.toks+1 }:Shared).heap:=X;have SF:=PySem.F.store_object;have ne:=ZdV h3
 have sub:Looks (model prog w) ({ s with toks:=s.toks+1 }:Shared).heap (isInstance (.ref e) (.type "object")) true:=I1.type.andThen (looks_mroIn X1 (by unfold mroIn;rw [h1,bind_some,if_neg (by rw [ne]; decide),h3]; simp [Zil]));refine codeAny_call_builtin SF.slot.plain SF.entry (@check_slot (model prog w) _ _ _ "object.__setattr__" "object" "__setattr__" (.ref e) [.str "message" s.toks,v] [] _ SF.kind SF.split sub (SF.args (.ref e) (.str "message" s.toks) v) ?_)
 have hm:Looks (model prog w) ({ s with toks:=s.toks+1 }:Shared).heap (mroOf (.ref C)) cd.mro:=(looks_clsIn X1 h1).andThen .now;rw [osa_eq,refuse_eq];refine W0j (W0j (I1.type.here (W0j (hm.here ?_))));rw [h3,Zil,refuseLoop_ref,refuseLoop_ref,PySem.F.store_Exception.passes];refine W0k (W0j (I1.type.here (W0j ((looks_findIn X1 h5).here (W0j (W0k ?_))))))
 show wpAny _ _ (Builtin.ObjectAttr.storeInOwnDict (.ref e) (.ref C) (.str "message" s.toks) "message" v false) _ _ _
 unfold Builtin.ObjectAttr.storeInOwnDict;refine W0j (W0k (W0j ?_));show wpAny _ _ (instanceDict e true) _ _ _;unfold instanceDict;refine W0j (wpAny_loadPart hx ?_);dsimp only;refine W0j ((looks_clsIn X1 h1).here ?_);rw [h2];rw [if_neg (show ¬ (!typeHasDict (.ref C))=true by simp [typeHasDict])];refine W0j (wpAny_alloc ?_);have hx1:(s.heap.push { cls:=.type "dict",data:=.dict #[] }).get? e=some { cls:=.ref C,data:=.fields vs }:=get?_push_of_some _ hx
 have hne:e≠s.heap.objs.size:=W05 (lt_size hx);refine W0j (wpAny_update hx1 ?_);refine W0k ?_;show wpAny _ _ (Builtin.ObjectAttr.storeInDict s.heap.objs.size (.str "message" s.toks) "message" v) _ _ _;refine W0j (W0k (W0j ?_));have hgd:((s.heap.push { cls:=.type "dict",data:=.dict #[] }).update e fun o=>{ o with dict:=some s.heap.objs.size }).get? s.heap.objs.size=some { cls:=.type "dict",data:=.dict #[] } :=
  (Heap.get?_update_ne _ _ _ _ hne.symm).trans (get?_push_size _ rfl)
 have hD:((s.heap.push { cls:=.type "dict",data:=.dict #[] }).update e fun o=>{ o with dict:=some s.heap.objs.size }).DictOf (PySem.strKind prog w) s.heap.objs.size []:=by
  exact ⟨_,#[],0,hgd,⟨rfl,rfl,rfl⟩,rfl,fun u0 h=>by simp at h,Pairs.nil,nodup_nil⟩
 refine Z45 hD fun h' hd'' sb=>?_
 (refine xEEEAAAAA (id hd'') ?_;intro o' es' ep' ho' hc' hdt _ hp' _)
 have hz':es'.size≤sizeLine+1:=by
  have e1:=hp'.length;have e2:es'.toList.length=es'.size:=by simp
  have e3:=stored_length_le [] ("message":Str) v;simp only [List.length_nil] at e3;unfold sizeLine;omega
 refine W0j (wpAny_lookBehind ho' (by rw [hdt]; exact pastItsLine_dict hz') ?_);refine W0k (hq h' _ s.heap.objs.size (fun b o hb hbo=>?_) ?_)
 ·exact (sb.2 b (W05 (lt_size hbo))).trans ((Heap.get?_update_ne _ _ _ _ hb).trans (get?_push_of_some _ hbo))
 ·exact (sb.2 e hne).trans (get?_update_self _ hx1 rfl)
end
section
variable {prog:Program}{w:World}{A:Around}{E:Value→Shared→Prop}{R:Result→Shared→Prop}{h:Heap}{g:Array GenState}{d:Drawn}{t:Nat}{os:OsState}
variable {nm q:Str}{C N:Addr}{bs bm:List Value}{hdct:Bool}{sn:List Str}{sub:List Value}{ab:Bool}{col:Option Bool}{dd:Option Addr}{k0 k1 k2 k3 k5:Option Value}{Bn newId inN:String}{bmN:List Value}
theorem Z5v (Fn:ExcBaseFacts Bn newId inN bmN)(hBn:bm.contains (.type Bn)=true)(hC:h.get? C=some (excClassObj nm q C N bs bm hdct sn sub ab col dd k0 k1 k2 k3 k5 newId))
  (hq:Q () ⟨h,g,d,t,os⟩):wpAny M A (checkBuiltinCall newId ⟨.ref C::rest,[]⟩) Q E ⟨h,g,d,t,os⟩:=wpAny_check_new_subU Fn hBn .base hC hq
theorem Z7I (Fn:ExcBaseFacts Bn newId inN bmN)(hBn:bm.contains (.type Bn)=true)(hA:bm.contains (.type "AttributeError")=false)(hN:bm.contains (.type "NameError")=false) 
  (hC:h.get? C=some (excClassObj nm q C N bs bm hdct sn sub ab col dd k0 k1 k2 k3 k5 newId)) (hrest:rest.length≤sizeLine)
  (hq:R (.ok (.ret (.ref (h.objs.size+1)))) ⟨(h.push { cls:=.type "tuple",data:=.seq rest.toArray }).push { cls:=.ref C,data:=.fields #[.ref h.objs.size,.none,.none,.none,.bool false,.none] },g,d,t,os⟩) :
  codeAny (model prog w) A (.builtin newId ⟨.ref C::rest,[]⟩) R ⟨h,g,d,t,os⟩:=by
 have hends:=Fn.ends;have i1:(Value.ref C::bm).contains (.type Bn)=true:=by rw [List.contains_cons,hBn,Bool.or_true]
 have i2:(Value.ref C::bm).contains (.type "AttributeError")=false:=by rw [List.contains_cons,hA]; rfl
 have i3:(Value.ref C::bm).contains (.type "NameError")=false:=by rw [List.contains_cons,hN]; rfl
 refine codeAny_builtinAt Fn.entry ?_;unfold Builtin.«BaseException.__new__»;refine PySem.wpAt_bind ?_;show PySem.wpAt _ _ _ (stack >>= _) _ _ _;refine PySem.wpAt_bind (PySem.wpAt_stack fun p below=>PySem.wpAt_of_wpAny ?_)
 wp_walk
 refine PySem.wpAt_of_wpAny ?_;rw [Fn.owner]
 repeat (first | with_reducible refine wpAny_madeHere_exc Fn.canon hC ?_ | with_reducible refine wpAny_loadPart_at hC ?_ | (with_reducible refine wpAny_isSubtype_exc hC ?_;first | rewrite [i1] | rewrite [i2] | rewrite [i3]) | wp_step)
 show R _ _
 rw [size_push];exact hq
theorem Z7m (Fn:ExcBaseFacts Bn newId inN bmN)(hBn:bm.contains (.type Bn)=true)(hA:bm.contains (.type "AttributeError")=false)(hN:bm.contains (.type "NameError")=false){K:Frag}(X:K.In h) 
  (hi:findIn K (.ref C) "__init__"=some (some (.ref fI))) (hf:typeIn K (.ref fI)=some (.type "function")) (hrest:rest.length≤sizeLine)
  (hC:h.get? C=some (excClassObj nm q C N bs bm hdct sn sub ab col dd k0 k1 k2 k3 k5 newId))
  (hq:∀ h' e,Heap.MadeExcOf h h' e (.ref C) rest→e=h.objs.size+1→h'.get? e=some { cls:=.ref C,data:=.fields #[.ref h.objs.size,.none,.none,.none,.bool false,.none] } →
   wpAny (model prog w) A (call (.ref fI) (.ref e::rest)) (fun r s'=>r = .none∧Q (.done (.ret (.ref e))) s') E ⟨h',g,d,t,os⟩) :
  wpAny (model prog w) A (Builtin.«type.__call__» ⟨.ref C::rest,[]⟩) Q E ⟨h,g,d,t,os⟩:=by
 repeat (first | with_reducible refine wpAny_loadPart_at hC ?_ | with_reducible refine wpAny_madeBy_exc hC ?_ | wp_step)
 refine codeAny_call_builtin_code (Code.quiet_builtin _ Fn.quiet) (Z5v Fn hBn hC ?_);refine Z7I Fn hBn hA hN hC hrest ?_;show wpAny _ _ _ _ _ _;have keep:∀ b o,h.get? b=some o→((h.push { cls:=.type "tuple",data:=.seq rest.toArray }).push { cls:=.ref C,data:=.fields #[.ref h.objs.size,.none,.none,.none,.bool false,.none] }).get? b=some o :=
  fun b o e=>get?_push_of_some _ (get?_push_of_some _ e)
 have hC1:=keep _ _ hC;have X1:K.In ((h.push { cls:=.type "tuple",data:=.seq rest.toArray }).push { cls:=.ref C,data:=.fields #[.ref h.objs.size,.none,.none,.none,.bool false,.none] }):=X.keeps keep;have he:((h.push { cls:=.type "tuple",data:=.seq rest.toArray }).push { cls:=.ref C,data:=.fields #[.ref h.objs.size,.none,.none,.none,.bool false,.none] }).get? (h.objs.size+1)=some
   { cls:=.ref C,data:=.fields #[.ref h.objs.size,.none,.none,.none,.bool false,.none] }:=by heap_get
 have hself:(Value.ref C::bm).contains (.ref C)=true:=by simp
 unfold isInstance
 repeat (first | with_reducible refine wpAny_loadPart_at he ?_ | (with_reducible refine wpAny_isSubtype_exc hC1 ?_;rewrite [hself]) | wp_step)
 show wpAny _ _ (typeLookup (.ref C) _) _ _ _
 refine Looks.here (s:=⟨_,g,d,t,os⟩) (looks_findIn X1 hi) ?_;refine wpAny_holding (W0j ?_);unfold bindSpecial;refine W0j (Looks.here (s:=⟨_,g,d,t,os⟩) (looks_typeIn X1 hf) ?_);rw [if_pos (by decide)];refine W0k (W0j (wpAny_mono (hq _ (h.objs.size+1) ⟨keep,Heap.get?_none_of_le (W03 _),h.objs.size,he,Heap.get?_none_of_le (W04 _),?_⟩ rfl he) (fun r s' hr=>?_) fun u0 u0 x=>x))
 ·exact get?_push_of_some _ (Heap.get?_push_at rfl rfl)
 ·(refine xA hr ?_;(try clear hr);intro o0 hQ;subst o0)
  wp_walk
  exact hQ
theorem Z7f (Fn:ExcBaseFacts Bn newId inN bmN)(hBn:bm.contains (.type Bn)=true)(hA:bm.contains (.type "AttributeError")=false)(hN:bm.contains (.type "NameError")=false){K:Frag}(X:K.In h) 
  (hi:findIn K (.ref C) "__init__"=some (some (.ref fI))) (hf:typeIn K (.ref fI)=some (.type "function")) (hrest:rest.length≤sizeLine)
  (hC:h.get? C=some (excClassObj nm q C N bs bm hdct sn sub ab col dd k0 k1 k2 k3 k5 newId))
  (hq:∀ h' e,Heap.MadeExcOf h h' e (.ref C) rest→e=h.objs.size+1→h'.get? e=some { cls:=.ref C,data:=.fields #[.ref h.objs.size,.none,.none,.none,.bool false,.none] } →
   wpAny (model prog w) (A.under (.builtin "type.__call__" ⟨.ref C::rest,[]⟩)) (call (.ref fI) (.ref e::rest)) (fun r s'=>r = .none∧Q (.ref e) s') E ⟨h',g,d,t,os⟩) :
  wpAny (model prog w) A (call (.ref C) rest) Q E ⟨h,g,d,t,os⟩:=by
 have f1:=tc_lookup;have f2:=tc_bind (.ref C);have hT:(⟨h,g,d,t,os⟩:Shared).TypeIs (.ref C) "type":=⟨_,hC,rfl⟩;refine wpAny_call (codeAny_of_tree ?_);show wpAny _ _ (callAny (.ref C) _) _ _ _
 repeat (any_goals (first | assumption | with_reducible refine wpAny_loadPart_at hC ?_ | wp_step))
 refine ⟨rfl,?_⟩;refine codeAny_call_builtin_at (Code.quiet_builtin _ (by decide +kernel)) entry_typeCall (wpAny_check_type_call_sub hC (Z7m Fn hBn hA hN X hi hf hrest hC fun h' e hm h2 h3=>?_));exact hq h' e hm h2 h3
end
def YI (c:Cfg)(ρ:Rho)(st:St)(a:Addr):Prop:=¬ c.U a∧¬ c.G a∧∀ i o,st.get i=some o→ρ.a i≠a
def Y0 (c:Cfg)(ρ:Rho)(st:St)(k:Nat)(fl:Option Value)(v:Value)(s:Shared):Prop :=
 ∃ a oe vs,v = .ref a∧s.heap.get? a=some oe∧oe.cls = .ref k∧oe.data = .fields vs∧YI c ρ st a∧(∃ a0,vs[0]?=some a0)∧(match fl with
  | none=>vs[1]?=some .none
  | some fl=>∃ T oT ts,vs[1]?=some (.ref T)∧YI c ρ st T∧T≠a∧s.heap.get? T=some oT∧oT.data = .fields ts∧ts[3]?=some fl)
section
variable {c:Cfg}{T:Tab}{ρ:Rho}{st st' st1 st2:St}{s:Shared}{A:Around}{E:Value→Shared→Prop}{ξ:Z3}{env:Env}
theorem YI.of_new (C:c.Ok)(R:Rel c ρ st s)(h:s.heap.get? a=none):YI c ρ st a:=by
 refine ⟨fun q=>?_,fun q=>?_,fun i o e q=>?_⟩
 ·obtain ⟨o,ho⟩:=C.alive a q
  (refine xE ((R.keep a o ho q).some) ?_;intro o' ho')
  rw [h] at ho';cases ho'
 ·(refine xA (R.big a q) ?_;intro o0 _;obtain ⟨o,ho,_⟩:=o0)
  rw [h] at ho;cases ho
 ·obtain ⟨_,h2,_⟩:=R.at_ i o e;obtain ⟨ob,hob⟩:=h2.some;rw [q,h] at hob;cases hob
theorem Rel.slots (R:Rel c ρ st s)(k1:∀ b o,(c.U b∨∃ i oi,st.get i=some oi∧ρ.a i=b)→¬ c.G b→s.heap.get? b=some o→h'.get? b=some o)
  (k2:∀ b o,c.G b→s.heap.get? b=some o→∃ sl,h'.get? b=some { o with slots:=sl }):Rel c ρ st { s with heap:=h' }:=by
 have ug:∀ b,c.U b→¬ c.G b:=fun b u g=>(R.big b g).2.1 u;refine ⟨fun L h=>?_,fun i o e=>?_,R.inj,fun i o e=>?_,fun b o e hu=>?_,R.gens,R.os,R.drawn⟩
 ·(refine xA (R.big L h) ?_;intro o0 r;obtain ⟨ob,e,d⟩:=o0)
  (refine xE (k2 L ob h e) ?_;intro sl e')
  exact ⟨⟨_,e',d⟩,r⟩
 ·obtain ⟨h1,h2,h3⟩:=R.at_ i o e;refine ⟨h1,?_,h3⟩;obtain ⟨ob,hob⟩:=h2.some;by_cases g:c.G (ρ.a i)
  ·have hf:=(R.big _ g).2.2 i o e rfl
   cases o with
   | frame m =>
    (refine xEA h2 ?_;(try clear h2);intro f o1 q;obtain ⟨o',es,ep,e1,r⟩:=o1)
    (refine xE (k2 _ _ g e1) ?_;intro sl e')
    exact ⟨f,⟨_,es,ep,e',r⟩,q⟩
   | _=>cases hf
  ·exact h2.heap ((k1 _ _ (.inr ⟨i,o,e,rfl⟩) g hob).trans hob.symm)
 ·obtain ⟨h1,h2,h3,h4⟩:=R.ro i o e;obtain ⟨ob,hob⟩:=h2.some;exact ⟨h1,h2.heap ((k1 _ _ (.inl h3) (ug _ h3) hob).trans hob.symm),h3,h4⟩
 ·have z:=R.keep b o e hu;obtain ⟨ob,hob⟩:=z.some;show Yh (c.F b) o (h'.get? b);rw [k1 _ _ (.inl hu) (ug _ hu) hob,← hob]; exact z
theorem Z3f (C:c.Ok)(R:Rel c ρ st s)(hhid:∀ b∈hid,YI c ρ st b∨c.G b)(h1:(hideAll s.heap hid).StaysIn h')(h2:h'.TracedAtW (hideAll s.heap hid) a (.ref k) a0 fl)
  (h3:∀ b o,s.heap.get? b=some o→(∀ vs,o.data ≠ .fields vs)→∃ sl,h'.get? b=some { o with slots:=sl }) (ha:YI c ρ st a) :
  Rel c ρ st { s with heap:=h' }∧Y0 c ρ st k (some fl) (.ref a) { s with heap:=h' }:=by
 have nh:∀ b,(c.U b∨∃ i oi,st.get i=some oi∧ρ.a i=b)→¬ c.G b→b∉hid:=by
  intro b hb hg hm;rcases hhid b hm with ⟨f1,_,f3⟩ | g
  ·rcases hb with u | ⟨i,oi,e,q⟩
   ·exact f1 u
   ·exact f3 i oi e q
  ·exact hg g
 refine ⟨R.slots (fun b o hb hg e=>h1 b o (hideAll_get _ e (nh b hb hg))) fun b o g e=>?_,?_⟩
 ·(refine xA (R.big b g) ?_;intro o0 _;obtain ⟨ob,e',d⟩:=o0)
  rw [e] at e';cases e';exact h3 b o e d
 ·(refine xEEEEEAAA h2 ?_;(try clear h2);intro oe vs T oT ts he o1 hd o2;refine xAAAAA o2 ?_;clear o2;intro hv1 hT0 hTa hT hdT ht3;obtain ⟨hcls,h0⟩:=o1)
  refine ⟨a,oe,vs,rfl,he,hcls,hd,ha,⟨a0,h0⟩,T,oT,ts,hv1,?_,hTa,hT,hdT,ht3⟩;have notG:¬ c.G T:=fun g=>by
   (refine xA (R.big T g) ?_;intro o3 _;obtain ⟨ob,e,d⟩:=o3)
   (refine xE (h3 T ob e d) ?_;intro sl e')
   have hT:h'.get? T=some oT:=hT;rw [hT] at e';cases e';exact d _ hdT
  cases hb:s.heap.get? T with
  | none=>exact YI.of_new C R hb
  | some o =>
   by_cases hm:T∈hid
   ·rcases hhid T hm with f | g
    ·exact f
    ·exact absurd g notG
   ·have:=hideAll_get hid hb hm
    rw [this] at hT0;cases hT0
theorem Z1q (R:Rel c ρ st s):∀ {l:List Env},(∀ env∈l,env.scope.kind ≠ .module∧∃ L,env.frame=some L∧c.G L∧L∈hid)→s.heap.FunFrames (hideAll s.heap hid) l
 | [],_=>trivial
 | env::l,h=>by
  obtain ⟨hk,L,hf,hg,hm⟩:=h env W0d
  (refine xA (R.big L hg) ?_;intro o0 _;obtain ⟨ob,e,d⟩:=o0)
  exact ⟨hk,⟨L,ob,hf,hideAll_none _ hm,e,d⟩,Z1q R fun v hv=>h v (W0e _ hv)⟩
noncomputable def hidOf (l:List Env)(more:List Addr):List Addr:=more++l.filterMap (·.frame)
theorem Z9f (hl:∀ env∈l,env.scope.kind ≠ .module∧∃ L,env.frame=some L∧c.G L)(hm:∀ b∈more,YI c ρ st b):∀ b∈hidOf l more,YI c ρ st b∨c.G b:=by
 intro b hb
 (first | delta hidOf at hb | unfold hidOf at hb)
 rcases mem_append.mp hb with h | h
 ·exact .inl (hm b h)
 ·obtain ⟨env,he,hf⟩:=List.mem_filterMap.mp h
  (refine xAEA (hl env he) ?_;intro _ L hf' hg)
  rw [hf] at hf';cases hf';exact .inr hg
theorem Z2j (hl:∀ env∈l,env.scope.kind ≠ .module∧∃ L,env.frame=some L∧c.G L):∀ env∈l,env.scope.kind ≠ .module∧∃ L,env.frame=some L∧c.G L∧L∈hidOf l more:=by
 intro env he;obtain ⟨hk,L,hf,hg⟩:=hl env he;exact ⟨hk,L,hf,hg,List.mem_append_right _ (List.mem_filterMap.mpr ⟨env,he,hf⟩)⟩
noncomputable abbrev ZjS (c:Cfg)(l:List Env):Prop:=∀ env∈l,env.scope.kind ≠ .module∧∃ L,env.frame=some L∧c.G L
theorem Z7v (C:c.Ok)(R:Rel c ρ st s){L:Addr}(x:Y0 c ρ st k fl v s)(hfl:fl=none∨fl=some .none∨fl=some (rawInt L))(hf:A.frames=some (env::l))(hL:env.frame=some L)(hs:ZjS c (env::l))
  (hq:∀ s',Rel c ρ st s'→Y0 c ρ st k (some (rawInt L)) v s'→Q () s'):wpAny M A (noteFrame v env) Q E s:=by
 (refine xEEEAAAAA x ?_;(try clear x);intro a oe vs o0 he hcls hd hfa o1;refine xA o1 ?_;clear o1;intro o2 hx;subst o0;obtain ⟨a0,h0⟩:=o2)
 rcases hfl with rfl | rfl | rfl
 ·have hfrm:=Z1q R (hid:=hidOf (env::l) [a]) (Z2j hs);have hok:=Z9f (ρ:=ρ) (st:=st) hs (more:=[a]) (fun b hb=>by rw [mem_singleton.mp hb]; exact hfa);unfold noteFrame;simp only [hL];refine W0j (wpAny_field he hd hx ?_);rw [if_neg (by decide)];refine wpAny_entryW hf hfrm hL he (fun b o e=>of_hideAll _ e) (hideAll_none _ (List.mem_append_left _ (mem_singleton.mpr rfl))) hd (Array.getElem?_eq_some_iff.mp hx).1 h0 fun h' hN=>?_
  obtain ⟨n1,_,n3,n4⟩:=hN;rw [hcls] at n3;obtain ⟨r1,r2⟩:=Z3f C R hok n1 n3 n4 hfa;exact hq _ r1 r2
 ·obtain ⟨T,oT,ts,h1,hfT,hTa,hT,hdT,h3⟩:=hx;have hfrm:=Z1q R (hid:=hidOf (env::l) [a,T]) (Z2j hs);have hok:=Z9f (ρ:=ρ) (st:=st) hs (more:=[a,T]) (fun b hb=>by
   rcases W0i hb with rfl | hb
   ·exact hfa
   ·rw [mem_singleton.mp hb]; exact hfT)
  refine wpAny_noteFrame_onW (base:=hideAll s.heap (hidOf (env::l) [a,T])) (cls:=.ref k) (a0:=a0) hf hfrm hL
   ⟨oe,vs,T,oT,ts,he,⟨hcls,h0⟩,hd,h1,hideAll_none _ (List.mem_append_left _ (by simp)),hTa,hT,hdT,h3⟩ (fun b o e=>of_hideAll _ e) (hideAll_none _ (List.mem_append_left _ (by simp))) fun h' hN=>?_
  obtain ⟨n1,_,n3,n4⟩:=hN;obtain ⟨r1,r2⟩:=Z3f C R hok n1 n3 n4 hfa;exact hq _ r1 r2
 ·obtain ⟨T,oT,ts,h1,hfT,hTa,hT,hdT,h3⟩:=hx;refine wpAny_noteFrame_againW (base:=hideAll s.heap [a,T]) (cls:=.ref k) (a0:=a0) hL ⟨oe,vs,T,oT,ts,he,⟨hcls,h0⟩,hd,h1,hideAll_none _ (by simp),hTa,hT,hdT,h3⟩ ?_;exact hq _ R ⟨a,oe,vs,rfl,he,hcls,hd,hfa,⟨a0,h0⟩,T,oT,ts,h1,hfT,hTa,hT,hdT,h3⟩
theorem Z0T (C:c.Ok)(R:Rel c ρ st s)(x:Y0 c ρ st k (some fl) v s) 
  (hq:∀ s',Rel c ρ st s'→Y0 c ρ st k (some (fr.elim Value.none fun f=>rawInt f)) v s'→Q () s'):wpAny M A (setFlight v fr) Q E s:=by
 (refine xEEEAAAAA x ?_;(try clear x);intro a oe vs o0 he hcls hd hfa o1;refine xAEEEAAAA o1 ?_;clear o1;intro o2 T oT ts h1 hfT hTa hT o3;refine xA o3 ?_;clear o3;intro hdT h3;subst o0;obtain ⟨a0,h0⟩:=o2)
 have hsz3:3<ts.size:=(Array.getElem?_eq_some_iff.mp h3).1;unfold setFlight;refine W0j (wpAny_field he hd h1 ?_);rw [if_pos (show (Value.ref T != Value.none)=true from by simp)];have other:∀ b,b≠T→(s.heap.update T (Obj.mapFields (·.setIfInBounds 3 (fr.elim Value.none fun f=>rawInt f)))).get? b=s.heap.get? b:=fun b hb=>Heap.get?_update_other _ _ (Ne.symm hb);refine wpAny_setField hT hdT hsz3 (hq _ (R.slots (fun b o hb hg e=>?_) fun b o g e=>⟨o.slots,?_⟩) ?_)
 ·refine (other b fun q=>?_).trans e;subst q;rcases hb with u | ⟨i,oi,ei,q⟩
  ·exact hfT.1 u
  ·exact hfT.2.2 i oi ei q
 ·exact (other b fun q=>by subst q;exact hfT.2.1 g).trans e
 ·exact ⟨a,oe,vs,rfl,(other a (Ne.symm hTa)).trans he,hcls,hd,hfa,⟨a0,h0⟩,T,_,_,h1,hfT,hTa,get?_update_self _ hT (Obj.isFreed_of_fields (Obj.data_mapFields hdT _)),Obj.data_mapFields hdT _,by simp [hsz3]⟩
theorem Zas (C:c.Ok)(R:Rel c ρ st s)(x:Y0 c ρ st k fl v s)(hf:A.frames=some (env::l))(hL:env.frame=some L)(hs:ZjS c (env::l))
  (hq:∀ s',Rel c ρ st s'→Y0 c ρ st k (some (rawInt L)) v s'→Q () s'):wpAny M A (noteFrame v env) Q E s:=by
 cases fl with
 | none=>exact Z7v C R x (.inl rfl) hf hL hs hq
 | some fl =>
  by_cases hl:fl=rawInt L
  ·exact Z7v C R x (.inr (.inr (by rw [hl]))) hf hL hs hq
  ·(refine xEEEAAAAA x ?_;(try clear x);intro a oe vs o0 he hcls hd hfa o1;refine xAEEEAAAA o1 ?_;clear o1;intro o2 T oT ts h1 hfT hTa hT o3;refine xA o3 ?_;clear o3;intro hdT h3;subst o0;obtain ⟨a0,h0⟩:=o2)
   have hsz3:3<ts.size:=(Array.getElem?_eq_some_iff.mp h3).1;unfold noteFrame;simp only [hL];refine W0j (wpAny_field he hd h1 ?_);rw [if_pos (show (Value.ref T != Value.none)=true from by simp)];refine W0j (wpAny_field hT hdT h3 ?_);rw [if_neg (show ¬ ((fl==rawInt L)=true) from fun q=>hl (eq_of_beq q))];have other:∀ b,b≠T→(s.heap.update T (Obj.mapFields (·.setIfInBounds 3 Value.none))).get? b=s.heap.get? b:=fun b hb=>Heap.get?_update_other _ _ (Ne.symm hb)
   have R1:Rel c ρ st { s with heap:=s.heap.update T (Obj.mapFields (·.setIfInBounds 3 Value.none)) }:=by
    refine R.slots (fun b o hb hg e=>?_) fun b o g e=>⟨o.slots,?_⟩
    ·refine (other b fun q=>?_).trans e;subst q;rcases hb with u | ⟨i,oi,ei,q⟩
     ·exact hfT.1 u
     ·exact hfT.2.2 i oi ei q
    ·exact (other b fun q=>by subst q;exact hfT.2.1 g).trans e
   have he1:(s.heap.update T (Obj.mapFields (·.setIfInBounds 3 Value.none))).get? a=some oe:=(other a (Ne.symm hTa)).trans he;refine W0j (wpAny_setField hT hdT hsz3 ?_);have hfrm:=Z1q R1 (hid:=hidOf (env::l) [a,T]) (Z2j hs);have hok:=Z9f (ρ:=ρ) (st:=st) hs (more:=[a,T]) (fun b hb=>by
    rcases W0i hb with rfl | hb
    ·exact hfa
    ·rw [mem_singleton.mp hb]; exact hfT)
   refine wpAny_entryW hf hfrm hL he1 (fun b o e=>of_hideAll _ e) (hideAll_none _ (List.mem_append_left _ (by simp))) hd (Array.getElem?_eq_some_iff.mp h1).1 h0 fun h' hN=>?_;obtain ⟨n1,_,n3,n4⟩:=hN;rw [hcls] at n3;obtain ⟨r1,r2⟩:=Z3f C R1 hok n1 n3 n4 hfa;exact hq _ r1 r2
theorem Z8k (h:e1.frame=e2.frame):noteFrame v e1=noteFrame v e2:=by
 unfold noteFrame PySem.frameOf;rw [h]
theorem Z7M (C:c.Ok)(R:Rel c ρ st s)(x:Y0 c ρ st k (some fl) v s) 
  (hq:∀ s' fl',Rel c ρ st s'→Y0 c ρ st k (some fl') v s'→E v s'):cameBackBy M A env E v s:=by
 have hx:=x
 (refine xEEEAAAAA hx ?_;(try clear hx);intro a oe vs o0 he hcls hd hfa o1;refine xAEEEA o1 ?_;clear o1;intro o2 T oT ts h1 _;subst o0;obtain ⟨a0,h0⟩:=o2)
 unfold cameBackBy;refine W0j (wpAny_field he hd h1 ?_);rw [if_neg (show ¬ (Value.ref T==Value.none)=true from by simp)];exact Z0T C R x fun s' R' x'=>hq s' _ R' x'
end
def JN (A:Around)(env:Env):Prop:=∃ e0 l L,A.frames=some (e0::l)∧e0.frame=some L∧env.frame=some L
def JO (c:Cfg)(ρ:Rho)(n:Nat)(st':St)(k:Nat)(v:Value)(s':Shared):Prop:=∃ ρ' fl,Ag ρ ρ' n∧n≤st'.n∧Rel c ρ' st' s'∧Y0 c ρ' st' k fl v s'
def ZQ (c:Cfg)(T:Tab):Cmd→St→Nat→St→Prop
 | .ex e ξ,st,k,st'=>∀ A ρ env s,Zg c A ξ.lev→Zc ρ st.n ξ env→Rel c ρ st s→JN A env→wpAny (model c.prog c.w) A (eval e env) (fun u0 u0=>False) (fun v s'=>JO c ρ st.n st' k v s') s
 | .st t ξ,st,k,st'=>∀ A ρ env s,Zg c A ξ.lev→Zc ρ st.n ξ env→Rel c ρ st s→JN A env→wpAny (model c.prog c.w) A (exec t env) (fun u0 u0=>False) (fun v s'=>JO c ρ st.n st' k v s') s
 | .sts l ξ,st,k,st'=>∀ A ρ env s,Zg c A ξ.lev→Zc ρ st.n ξ env→Rel c ρ st s→JN A env→wpAny (model c.prog c.w) A (execs l env) (fun u0 u0=>False) (fun v s'=>JO c ρ st.n st' k v s') s
 | .call f args lev,st,k,st'=>∀ A ρ s fv vs,Zg c A lev→Rel c ρ st s→f.Is ρ st.n fv→Are ρ st.n args vs→wpAny (model c.prog c.w) A (call fv vs) (fun u0 u0=>False) (fun v s'=>JO c ρ st.n st' k v s') s
 | .whl t body ξ,st,k,st'=>∀ A ρ env s (R:Result→Shared→Prop),Zg c A ξ.lev→Zc ρ st.n ξ env→Rel c ρ st s→JN A env→(∀ v s',(∃ ρ' fl,Ag ρ ρ' st.n∧st.n≤st'.n∧Rel c ρ' st' s'∧Y0 c ρ' st' k (some fl) v s')→R (.error v) s')→codeAny (model c.prog c.w) A (.whileLoop t body [] env) R s
 | .forl t it body ξ,st,k,st'=>∀ A ρ env s (R:Result→Shared→Prop),Zg c A ξ.lev→Zc ρ st.n ξ env→Rel c ρ st s→it<st.n→JN A env→(∀ v s',(∃ ρ' fl,Ag ρ ρ' st.n∧st.n≤st'.n∧Rel c ρ' st' s'∧Y0 c ρ' st' k (some fl) v s')→R (.error v) s')→codeAny (model c.prog c.w) A (.forLoop t (.ref (ρ.a it)) body [] env) R s
 | .comp elt t ifs it acc ξ,st,k,st'=>∀ A ρ env s (R:Result→Shared→Prop) iter scope pos,Zg c A ξ.lev→Zc ρ st.n ξ env→Rel c ρ st s→it<st.n→acc<st.n→JN A env→(∀ v s',(∃ ρ' fl,Ag ρ ρ' st.n∧st.n≤st'.n∧Rel c ρ' st' s'∧Y0 c ρ' st' k (some fl) v s')→R (.error v) s') →
   codeAny (model c.prog c.w) A (.compLoop (.ListComp elt [⟨t,iter,ifs,0⟩] scope pos) 0 (.ref (ρ.a it)) (.ref (ρ.a acc)) env) R s
 | _,_,_,_=>True
section
variable {c:Cfg}{T:Tab}{ρ:Rho}{st st' st1 st2 st3 st4:St}{s:Shared}{A:Around}{E:Value→Shared→Prop}{ξ:Z3}{env:Env}{k:Nat}
theorem JO.trans (z:JO c ρ1 n1 st' k v s')(g:Ag ρ ρ1 n)(h:n≤n1):JO c ρ n st' k v s':=by
 obtain ⟨ρ',fl,g',n',R',x⟩:=z;exact ⟨ρ',fl,g.trans g' h,W01 h n',R',x⟩
theorem Z1t (hX:c.X)(W:Z5 c T)(r:Zg c A lev)(t:JN A env)(z:JO c ρ n st' k v s)
  (hq:∀ s',(∃ ρ' fl,Ag ρ ρ' n∧n≤st'.n∧Rel c ρ' st' s'∧Y0 c ρ' st' k (some fl) v s')→Q () s'):wpAny M A (noteFrame v env) Q E s:=by
 obtain ⟨ρ',fl,g,hn,R,x⟩:=z;obtain ⟨e0,l,L,hf,hL0,hL⟩:=t;obtain ⟨fr,hfr,hs⟩:=r.fr hX;rw [hf] at hfr
 cases hfr
 rw [Z8k (e1:=env) (e2:=e0) (by rw [hL,hL0])];exact Zas W.C R x hf hL0 hs fun s' R' x'=>hq s' ⟨ρ',_,g,hn,R',x'⟩
theorem ZdO (W:Z5 c T)(hf:Qz f=false)(hs:args.any Zq=false)(hfun:YS T fv=true)
  (h1:Z0 c T (.ex f ξ) st (.v fv) st1) (h2:Z0 c T (.exs args ξ) st1 (.vs vs) st2) (h:ZQ c T (.call fv vs ξ.lev) st2 k st'):ZQ c T (.ex (.Call f args [] pos) ξ) st k st':=by
 intro A ρ env s r e0 R t;have he:eval (.Call f args [] pos) env=(do callWith pos (← eval f env) [] (backTo pos (starEach args env)) []):=by induction f using PySem.Expr.casesOn<;>first | rfl | cases hf
 rw [he];refine W0j (Zr h1 r e0 R fun va s1 ρ1 g1 n1 R1 ha e1=>Z0I hs (Z5y W.X W.Y hfun ha) (us_exs hs h2 r e1 R1 fun us s2 ρ2 g2 n2 R2 hu e2=>⟨R2.kin W.C,?_⟩));exact wpAny_mono (h A ρ2 s2 _ _ r R2 (ha.mono g2 n2) hu) (fun u0 u0 z=>z.elim) fun v s3 z=>(z.trans g2 n2).trans g1 n1
theorem ZfJ (h1:Z0 c T (.tst t ξ) st (.b d) st1)(h2:ZQ c T (.sts (if d then b else o') ξ) st1 k st'):ZQ c T (.st (.If t b o' pos) ξ) st k st':=by
 intro A ρ env s r e0 R tp;refine wpAny_If (Jp h1 r e0 R fun s1 ρ1 g1 n1 R1 e1=>?_);have:=wpAny_mono (h2 A ρ1 env s1 r e1 R1 tp) (fun u0 u0 z=>(z.elim:False)) fun u0 u0 z=>z.trans g1 n1
 cases d with
 | true=>rw [if_pos rfl]; exact wpAny_mono this (fun u0 u0 z=>z.elim) fun u0 u0 z=>z
 | false=>rw [if_neg (by decide)]; exact wpAny_mono this (fun u0 u0 z=>z.elim) fun u0 u0 z=>z
theorem Zd0 (h1:ZQ c T (.st t ξ) st k st1):ZQ c T (.sts (t::l) ξ) st k st1:=by
 intro A ρ env s r e0 R tp;exact wpAny_execs_cons (wpAny_mono (h1 A ρ env s r e0 R tp) (fun u0 u0 z=>z.elim) fun u0 u0 z=>z)
theorem Zez (h1:Z0 c T (.st t ξ) st .nx st1)(h:ZQ c T (.sts l ξ) st1 k st'):ZQ c T (.sts (t::l) ξ) st k st':=by
 intro A ρ env s r e0 R tp;refine wpAny_execs_cons (Zan h1 r e0 R fun f s1 ρ1 g1 n1 R1 hf e1=>?_)
 cases hf
 exact wpAny_mono (h A ρ1 env s1 r e1 R1 tp) (fun u0 u0 z=>z.elim) fun u0 u0 z=>z.trans g1 n1
theorem Zch (W:Z5 c T)(h:ZQ c T (.whl t b ξ) st k st'):ZQ c T (.st (.While t b [] pos) ξ) st k st':=by
 intro A ρ env s r e0 R tp;refine wpAny_While (h A ρ env s _ r e0 R tp fun v s' z=>?_);obtain ⟨ρ',fl,g,n,R',x⟩:=z;exact Z7M W.C R' x fun s'' fl' R'' x'=>⟨ρ',_,g,n,R'',x'⟩
theorem Zdg (hX:c.X)(W:Z5 c T)(h1:Z0 c T (.tst t ξ) st (.b true) st1)(h2:ZQ c T (.sts body ξ) st1 k st'):ZQ c T (.whl t body ξ) st k st':=by
 intro A ρ env s RR r e0 R tp hR;refine Z0o (Jp h1 r e0 R fun s2 ρ2 g2 n2 R2 e2=>?_);rw [if_pos rfl];exact wpAny_mono (h2 A ρ2 env s2 r e2 R2 tp) (fun u0 u0 z=>z.elim) fun v s3 z=>Z1t hX W r tp (z.trans g2 n2) fun s4 z=>hR v s4 z
theorem ZeS (W:Z5 c T)(h1:Z0 c T (.tst t ξ) st (.b true) st1)(h2:Z0 c T (.sts body ξ) st1 .nx st2)(h:ZQ c T (.whl t body ξ) st2 k st'):ZQ c T (.whl t body ξ) st k st':=by
 intro A ρ env s RR r e0 R tp hR;refine Z0o (Jp h1 r e0 R fun s2 ρ2 g2 n2 R2 e2=>?_);rw [if_pos rfl];refine Jb h2 r e2 R2 fun fl s5 ρ5 g5 n5 R5 hf e5=>?_
 cases hf
 refine h A ρ5 env s5 RR r e5 R5 tp fun v s6 z9=>xEEAAA z9 fun ρ6 fl g6 n6 R6 x=>hR v s6 ⟨ρ6,fl,((g2.trans g5 n2).trans g6 (W01 n2 n5)),W01 (W01 n2 n5) n6,R6,x⟩
theorem ZeA (W:Z5 c T)(hs:ZI it=false)(h1:Z0 c T (.ex it ξ) st (.v x) st1)(h2:ZT T c.ro st1 x (fun i st=>some (.v (.ref i),st))=some (.v (.ref i),st2))
  (h:ZQ c T (.forl t i b ξ) st2 k st'):ZQ c T (.st (.For t it b [] pos) ξ) st k st':=by
 intro A ρ env s r e0 R tp;refine wpAny_For (Zr h1 r e0 R fun v s1 ρ1 g1 n1 R1 hv e1=>Z24 W.X W.C R1 h2 hv fun ρ2 i' st2' s2 hk hi g2 n2 R2=>?_) (Z2J hs)
 cases hk
 refine h A ρ2 env s2 _ r (e1.mono g2 n2) R2 hi tp fun v s' z=>?_;obtain ⟨ρ',fl,g,n,R',x⟩:=z;exact Z7M W.C R' x fun s'' fl' R'' x'=>⟨ρ',_,(g1.trans g2 n1).trans g (W01 n1 n2),W01 (W01 n1 n2) n,R'',x'⟩
theorem Zc4 (hX:c.X)(W:Z5 c T)(hx:Zy T c.ro st it=some (some x,st1))(hl:YF t it x st1=some st2)(ha:Z0 c T (.asg t x ξ) st2 .u st3)(hb:ZQ c T (.sts body ξ) st3 k st') :
  ZQ c T (.forl t it body ξ) st k st':=by
 intro A ρ env s RR r e0 R hit tp hR;refine Z1a (it:=t) (wpAny_mono (Z2k W.X W.C r R hx) (fun rv s2 z9=>xEAAA z9 fun ρ2 g2 n2 R2 hv=>?_) fun u0 u0 z=>z);obtain ⟨v,rfl,hv⟩:=hv;have e2:=e0.mono g2 n2;dsimp only;rw [← (g2 it hit).1];refine Z67 R2 hl hv fun s3 n3 R3=>?_;have e3:Zc ρ2 st2.n ξ env:=by rw [n3]; exact e2
 refine Xl ha r e3 R3 (by rw [n3]; exact hv) fun s4 ρ4 g4 n4 R4 e4=>?_;rw [n3] at g4 n4;exact wpAny_mono (hb A ρ4 env s4 r e4 R4 tp) (fun u0 u0 z=>z.elim) fun v s5 z=>Z1t hX W r tp ((z.trans g4 n4).trans g2 n2) fun s6 z=>hR v s6 z
theorem Zc2 (hX:c.X)(W:Z5 c T)(hx:Zy T c.ro st it=some (some x,st1))(hl:YF t it x st1=some st2)(ha:Z0 c T (.asg t x ξ) st2 .u st3)
  (hi:Z0 c T (.ifs ifs ξ) st3 (.b true) st4) (he:ZQ c T (.ex elt ξ) st4 k st'):ZQ c T (.comp elt t ifs it acc ξ) st k st':=by
 intro A ρ env s RR iter scope pos r e0 R hit hacc tp hR;refine Z0Y (wpAny_mono (Z2k W.X W.C r R hx) (fun rv s2 z9=>xEAAA z9 fun ρ2 g2 n2 R2 hv=>?_) fun u0 u0 z=>z);obtain ⟨v,rfl,hv⟩:=hv;have e2:=e0.mono g2 n2;dsimp only;rw [← (g2 it hit).1];refine Z67 R2 hl hv fun s3 n3 R3=>?_;have e3:Zc ρ2 st2.n ξ env:=by rw [n3]; exact e2
 refine Xl ha r e3 R3 (by rw [n3]; exact hv) fun s4 ρ4 g4 n4 R4 e4=>?_;rw [n3] at g4 n4;refine wpAny_mono (hi A ρ4 env s4 _ r e4 R4) (fun ok s5 z9=>xEAAA z9 fun ρ5 g5 n5 R5 hb=>?_) fun u0 u0 z=>z;subst hb;rw [if_pos rfl];exact wpAny_mono (he A ρ5 env s5 r (e4.mono g5 n5) R5 tp) (fun u0 u0 z=>z.elim) fun v s6 z=>Z1t hX W r tp (((z.trans g5 n5).trans g4 n4).trans g2 n2) fun s7 z=>hR v s7 z
theorem YI.noG (h:YI (c.withG L) ρ st a):YI c ρ st a:=⟨h.1,fun q=>h.2.1 (.inl q),h.2.2⟩
theorem Y0.noG (h:Y0 (c.withG L) ρ st k fl v s):Y0 c ρ st k fl v s:=by
 (refine xEEEAAAAA h ?_;(try clear h);intro a oe vs h1 h2 h3 h4 h5 o0;refine xA o0 ?_;clear o0;intro h6 h7)
 refine ⟨a,oe,vs,h1,h2,h3,h4,h5.noG,h6,?_⟩
 cases fl with
 | none=>exact h7
 | some fl=>obtain ⟨T,oT,ts,k1,k2,k3⟩:=h7;exact ⟨T,oT,ts,k1,k2.noG,k3⟩
theorem Zg7 (hX:c.X)(W:Z5 c T)(hr:T.fn a=some r)(hb:Yw r.ps r.dfl args=some bs)(h1:ZO r bs lev st=some (.u,st1))(h2:∀ L,ZQ (c.withG L) T (.sts r.body (Zv r st.n lev)) st1 k st') :
  ZQ c T (.call (.old a) args (lev+1)) st k st':=by
 intro A ρ s fv vs rm R hf ha
 cases hf
 refine wpAny_call (Z2g W (W.X.fn _ _ hr) hb h1 rm R ha fun env ρ1 s1 rm1 e1 R1 g1 n1 hfr hk hL=>?_);obtain ⟨fr,hfrm,_⟩:=rm.fr hX;have tp:JN (A.deeper env) env:=⟨env,fr,_,Around.frames_deeper hfrm,hfr,hfr⟩;refine wpAny_mono (h2 _ (A.deeper env) ρ1 env s1 rm1 e1 R1 tp) (fun u0 u0 z=>z.elim) fun v s4 z=>?_;unfold leaving;refine W0j (Z1t (c:=c.withG s.heap.objs.size) (T:=T) hX (W.withG _) rm1 tp z fun s5 z9=>xEEAAA z9 fun ρ5 fl g5 n5 R5 x5=>?_)
 exact Z0T (W.withG _).C R5 x5 fun s6 R6 x6=>⟨ρ5,_,g1.trans g5 n1,W01 n1 n5,R6.noG,x6.noG⟩
end
def YJ:ZF:=Z8 (YH 5 0) [] 48 "MillError.__init__"
theorem Z5H:∃ p1 p2 p3 p4,YJ.body=[.Assign [.Attribute (.Name "self" p1) "message" p2] (.Name "message" p3) p4]:=⟨_,_,_,_,rfl⟩
theorem Z80:YJ.sc.names.lookup ("self":Str)=some .local∧YJ.sc.names.lookup ("message":Str)=some .local∧YJ.sc.kind = .function∧(YJ.sc.names.all fun x=>x.2 != .cell)=true∧YJ.ps=(["self","message"]:List Str)∧YJ.dfl=[]:=by
 refine ⟨∅,∅,∅,∅,∅,rfl⟩
structure Z3c (c:Cfg)(C:Nat):Prop where
 msg:ZkR c.K C 52=true
 keep:keepIn c.K (.ref C)=true
 init:findIn c.K (.ref C) "__init__"=some (some (.ref 49))∧typeIn c.K (.ref 49)=some (.type "function")
 obj:∃ nm q N bs hdct sn sub ab col dd k0 k1 k2 k3 k5,c.K.lookup C=some (excClassObj nm q C N bs [.ref 52,.type "Exception",.type "BaseException",.type "object"] hdct sn sub ab col dd k0 k1 k2 k3 k5 "Exception.__new__")
section
variable {c:Cfg}{T:Tab}{ρ:Rho}{st st' st1 st2:St}{s:Shared}{A:Around}{E:Value→Shared→Prop}{ξ:Z3}{env:Env}
theorem Z6R (F:ZcB c 49 YJ)(hc:ZkR c.K C 52=true){x:MV}(hm:x.Is ρ n m)(X:c.K.In s.heap)(hlim:s.heap.NoLimit)(hroom:A.depth<recursionLimit)
  (hx:s.heap.get? e=some { cls:=.ref C,data:=.fields vs })
  (hq:∀ h' tk d,(∀ b o,b≠e→s.heap.get? b=some o→h'.get? b=some o)→h'.get? e=some { cls:=.ref C,dict:=some d,data:=.fields vs }→Q .none { s with heap:=h',toks:=tk }) :
  wpAny (model c.prog c.w) A (call (.ref 49) [.ref e,m]) Q E s:=by
 (refine xEEAAAAAA (F.fd) ?_;intro o fd k1 k2 k3 k4 k5 k6 o0;refine xAAAAAAAA o0 ?_;clear o0;intro k7 k8 k9 k10 k11 kc kq k12 k13)
 obtain ⟨i1,i2,i3,i4,i5,i6⟩:=Z80;obtain ⟨p1,p2,p3,p4,hbody⟩:=Z5H;refine wpAny_call ?_;obtain ⟨us,hus,hbind,_⟩:=k13 s ρ n [.old e,x] [.old e,x] [.ref e,m] X ⟨rfl,hm,trivial⟩ (by rw [i5,i6]; rfl)
 (refine xEEAA (ZdU hus) ?_;intro v0 m' o1 o2 hm';subst o1;subst o2)
 rw [i5] at hbind;have hbind:BindsTo s fd ⟨[.ref e,m],[]⟩ [(("self":Str),.ref e),(("message":Str),m')]:=hbind;refine codeAny_call_def (binds:=[(("self":Str),.ref e),(("message":Str),m')]) hroom (X _ _ k1) k3 hlim (k12 _ X) k4 hbind ?_ ?_ ?_ k9 k10 k11
 ·intro x hx;rw [k5] at hx;have:=all_eq_true.mp i4 x hx
  simpa using this
 ·intro x hx;rw [k5];simp only [mem_cons,not_mem_nil,or_false] at hx;rcases hx with rfl | rfl
  ·exact i1
  ·exact i2
 ·intro h0 hns hkeep;rw [hbody];have hk:(callEnv fd s.heap.objs.size 49).scope.kind = .function:=k11;have ks:(callEnv fd s.heap.objs.size 49).kindOf ("self":Str)=some .local:=by show fd.scope.names.lookup _=_;rw [k5]; exact i1
  have km:(callEnv fd s.heap.objs.size 49).kindOf ("message":Str)=some .local:=by show fd.scope.names.lookup _=_;rw [k5]; exact i2
  have hns':h0.Ns (callEnv fd s.heap.objs.size 49).locals (fun x=>([(("self":Str),Value.ref e),(("message":Str),m')]:List (Str×Value)).reverse.lookup x):=hns;have X0:c.K.In h0:=fun a o e'=>hkeep a o (X a o e');refine wpAny_execs_cons (Z3h (c:=c) rfl rfl (wpAny_Name (wpAny_loadName_local hk km hns' (by rfl) ?_) (by rfl)) rfl);rw [assign_Attribute];refine W0j (wpAny_holding (wpAny_Name (wpAny_loadName_local hk ks hns' (by rfl) ?_) (by rfl)))
  refine W0j (W0l (W0j (wpAny_holding ?_)));refine Z5C X0 hc (hkeep _ _ hx) fun h1 tk d hk1 he1=>?_;refine wpAny_release ?_;refine wpAny_execs_nil ?_;exact hq h1 tk d (fun b o hb hbo=>hk1 b o hb (hkeep b o hbo)) he1
theorem Z8j (rm:Zg c A (lev+1)):(A.under (.builtin "type.__call__" args)).depth<recursionLimit:=by
 have h1:=rm.depth;have h3:=Zdb args;show A.depth+(Code.builtin "type.__call__" args).weight<recursionLimit;unfold recursionLimit;omega
theorem Z7j {sub:List Value} 
  (hbase:bm.contains (.type "BaseException")=true) (hh:A.handled=none)
  (h:wpAny M A x (fun v s₁=>∃ e t d,v = .ref e∧s₁.heap.get? C=some (excClassObj nm q C N bs bm hdct sn sub ab col dd k0 k1 k2 k3 k5 newId) ∧
   s₁.heap.get? e=some { cls:=.ref C,dict:=some d,data:=.fields #[.ref t,.none,.none,.none,.bool false,.none] }∧E (.ref e) s₁) E s) :
  wpAny M A (raiseStmt env (some x) none) Q E s:=by
 have hcB:(Value.ref C::bm).contains (.type "BaseException")=true:=by rw [List.contains_cons,hbase,Bool.or_true]
 unfold raiseStmt;refine W0j (wpAny_mono h (fun v s₁ h₁=>?_) fun u0 u0 x=>x)
 (refine xEEEAAA h₁ ?_;(try clear h₁);intro e t d o0 hC he hE;subst o0)
 obtain ⟨hp,g,d,tk,os⟩:=s₁
 repeat (first | with_reducible refine wpAny_loadPart_at he ?_ | with_reducible refine wpAny_loadPart_at hC ?_ | (with_reducible refine wpAny_isSubtype_exc hC ?_;rw [hcB]) | wp_step)
 exact wpAny_raiseNew_none hh hE
theorem Z8z (W:Z5 c T)(F0:ZcB c 49 YJ)(F:Z3c c C)(hl:ξ.lev=lev+1)(hs:args.any Zq=false)(h1:Z0 c T (.ex (.Name X np) ξ) st (.v (.old C)) st1)
  (h2:Z0 c T (.exs args ξ) st1 (.vs [m]) st2):ZQ c T (.st (.Raise (some (.Call (.Name X np) args [] cpos)) none pos) ξ) st C st2:=by
 intro A ρ env s r e0 R tp
 (refine xEEEEEEEE (F.obj) ?_;intro nm q N bs hdct sn sub ab o0;refine xEEEEEEE o0 ?_;clear o0;intro col dd k0 k1 k2 k3 k5 hobj)
 rw [arm_exec_Raise];refine W0j (W0l ?_);show wpAny _ A (raiseStmt env (some (do let v ← eval (.Call (.Name X np) args [] cpos) env;standAt pos;pure v)) none) _ _ _;refine Z7j (C:=C) (bm:=[.ref 52,.type "Exception",.type "BaseException",.type "object"]) (nm:=nm) (q:=q) (N:=N) (bs:=bs) (hdct:=hdct) (sn:=sn) (sub:=sub) (ab:=ab) (col:=col) (dd:=dd) (k0:=k0) (k1:=k1) (k2:=k2) (k3:=k3) (k5:=k5) (newId:="Exception.__new__") (by decide +kernel) r.hh ?_
 have he:eval (.Call (.Name X np) args [] cpos) env=(do callWith cpos (← eval (.Name X np) env) [] (backTo cpos (starEach args env)) []):=rfl;rw [he];refine W0j (W0j (Zr h1 r e0 R fun va s1 ρ1 g1 n1 R1 ha e1=>?_))
 cases ha
 refine Z0I hs (fun h X=>keeps_K F.keep h X) (us_exs hs h2 r e1 R1 fun us s2 ρ2 g2 n2 R2 hu e2=>⟨R2.kin W.C,?_⟩)
 (refine xEA (Zep hu) ?_;intro u o1 hu1;subst o1)
 show wpAny _ A (call (.ref C) [u]) _ _ s2
 have rm:Zg c A (lev+1):=hl▸r;have X2:=R2.kin W.C;have lim2:=Z2E W.C R2;have hC2:=X2 _ _ hobj;obtain ⟨hp,gn,dr,tk,os⟩:=s2;refine Z7f PySem.F.excBase_Exception (by decide +kernel) (by decide +kernel) (by decide +kernel) X2 F.init.1 F.init.2 (by unfold sizeLine;simp) hC2 fun h' e hm hez hge=>?_;have X3:c.K.In h':=X2.keeps hm.keeps;refine Z6R F0 F.msg hu1 (s:=⟨h',gn,dr,tk,os⟩) X3 (lim2.keeps hm.keeps) (Z8j rm) hge fun h2 tk2 d hk2 he2=>⟨rfl,?_⟩
 have keep:∀ b o,hp.get? b=some o→h2.get? b=some o:=fun b o hbo=>hk2 b o (fun q=>by rw [q,hez] at hbo;exact absurd (lt_size hbo) (W0m (W03 _))) (hm.keeps b o hbo);have hnone:hp.get? e=none:=Heap.get?_none_of_le (by rw [hez]; exact W03 _);refine W0j (W0l (W0k ?_));have R3:Rel c ρ2 st2 ({ heap:=h2,gens:=gn,drawn:=dr,toks:=tk2,os:=os }:Shared):=R2.more (h':=h2) tk2 keep
 refine ⟨e,hp.objs.size,d,rfl,keep _ _ hC2,he2,ρ2,none,g1.trans g2 n1,W01 n1 n2,R3,e,_,_,rfl,he2,rfl,rfl,YI.of_new (s:=⟨hp,gn,dr,tk,os⟩) W.C R2 hnone,⟨_,rfl⟩,rfl⟩
end
end Mine
set_option backward.match.sparseCases true
section
open PySem.W.X PySem.W.ZRun
namespace Mine
noncomputable def ZR (K:Frag):Frag:=K.filter fun p=>!(beq p.1 603)&&!(beq p.1 608)
noncomputable def Zjr:Nat→List Obj→Frag
 | _,[]=>[]
 | k,o::r=>match o.alive with | true=>(k,o)::Zjr (k+1) r | false=>Zjr (k+1) r
def Xn (h:Heap):Frag:=Zjr 0 h.objs.toList
noncomputable def Zkm:Value→Bool | .str ..=>true | _=>false
noncomputable def ZjJ:Value→Bool | .int ..=>true | _=>false
noncomputable def ZjN:Value→Bool | .bool ..=>true | _=>false
def Zk4 (K:Frag)(cc P:Nat):Bool:=kB (K.lookup cc) fun o=>decide (o.cls = .type "code")&&(match o.data with | .fields vs=>decide (vs[11]?=some (.ref P))&&(decide (vs.getD 11 .none = .ref P)&&(Zkm (vs.getD 18 .none)&&(ZjJ (vs.getD 7 .none)&&(ZjN (vs.getD 9 .none)&&ZjJ (vs.getD 10 .none))))) | _=>false)
def ntB:List Stmt:=(Z8 (Ze 2) [] 27 "names_told").body
noncomputable def exO (nm:Str)(C N i j k:Nat):Obj:=excClassObj nm nm C N [.ref 52] [.ref 52,.type "Exception",.type "BaseException",.type "object"] true [] [] false none none (some (.ref i)) none (some (.str nm j)) (some (.str nm k)) (some (.bool true)) "Exception.__new__"
def ZlH (K0:Frag):List Bool :=
 let K:=ZR K0
 [ZiH K,fnC K 49 YJ,ZkR K 77 52,keepIn K (.ref 77),ZkR K 101 52,keepIn K (.ref 101),Zk4 K 605 603,Zk4 K 610 608,[0,1,2,3].all (fun a=>(K.lookup a).isSome),K.all (fun p=>blt p.1 612)]
def Zm0 (K0:Frag) :=
 let K:=ZR K0
 (exmOne K (.ref 101) (.ref 101),exmOne K (.ref 77) (.ref 101),exmOne K (.ref 77) (.ref 77),findIn K (.ref 77) "__init__",findIn K (.ref 101) "__init__",typeIn K (.ref 49),Qg K mainGlobals "law",Qg K mainGlobals "__builtins__")
def ZlW (K0:Frag):=let K:=ZR K0;(K.lookup 77,K.lookup 101,K0.lookup 603,K0.lookup 608)
def ZlL (nt:List Stmt)(K0:Frag):=let K:=ZR K0;(Q4 K 28,fnV K 49,(Qc nt).map (fun p=>fnV K p.1))
end Mine
end
namespace Mine
def Zmf (w:World)(s:SharedT):=(ZlP w s,ZlH (Xn s.abs.heap),Zm0 (Xn s.abs.heap),ZlW (Xn s.abs.heap),ZlL ntB (Xn s.abs.heap))
theorem Zfu (w:World)(os:OsState):Zmf w (XS w os)=(true,[true,true,true,true,true,true,true,true,true,true],(some true,some false,some true,some (some (.ref 49)),some (some (.ref 49)),some (.type "function"),some (some (.ref 611)),some (some (.ref 4))),
  (some (exO "SheetFault" 77 76 68 258 266),some (exO "LimitFault" 101 100 92 290 298),some (tabObj #[]),some (tabObj #[])),(ntB,some (fnE YJ),(Qc ntB).map (fun p=>some (fnE p.2)))):=∅
end Mine
set_option backward.match.sparseCases false
namespace Mine
section
variable {c:Cfg}{T:Tab}{ρ:Rho}{st st' st1 st2 st3:St}{s:Shared}{A:Around}{E:Value→Shared→Prop}{ξ:Z3}{env:Env}{k:Nat}
theorem Z7a (W:Z5 c T)(hf:(Zi sc.kind&&Zi ξ.sc.kind)=true)(hs:ZI iter=false)(hc:Yc ξ sc.names=some cs)(ha:Ja sc.names=true)
  (h1:Z0 c T (.ex iter ξ) st (.v x) st1) (h2:ZT T c.ro st1 x (fun i st=>some (.v (.ref i),st))=some (.v (.ref it),st2)) (hiter:QB (st2.get it)=true) (r:Zg c A ξ.lev) (e0:Zc ρ st.n ξ env) (R:Rel c ρ st s) {RR:Value→Addr→Result→Shared→Prop}
  (hloop:∀ ρ4 s4 env4,Zc ρ4 (st2.n+2) ⟨{ sc with names:=YG ξ sc.names },st2.n+1,cs,ξ.code,ξ.qual,ξ.lev⟩ env4→env4.frame=env.frame→Rel c ρ4 ((st2.push (.list [])).push (.frame [])) s4→Ag ρ ρ4 st.n→st.n≤st2.n→it<st2.n→¬ c.G (ρ4.a (st2.n+1)) →
   codeAny (model c.prog c.w) A (.compLoop (.ListComp elt [⟨target,iter,ifs,0⟩] sc pos) 0 (.ref (ρ4.a it)) (.ref (ρ4.a st2.n)) env4) (RR (.ref (ρ4.a st2.n)) (ρ4.a (st2.n+1))) s4) :
  ∃ cl,closureFor sc env=pure cl∧sc.kind = .function∧(∀ x∈sc.names,x.2 = .local→sc.names.lookup x.1=some .local)∧(∀ x,foldedSetIterable iter env x=pure x) ∧
  wpAny (model c.prog c.w) A (eval iter env) (fun x s₁=>wpAny (model c.prog c.w) A (pyIter x) (fun it s₂=>wpAny (model c.prog c.w) A (newList []) (fun acc s₃ =>
   wpAny (model c.prog c.w) A (newFunctionEnv sc env.globals cl [] env.qual none .none (some env)) (fun cenv s₄ =>
    codeAny (model c.prog c.w) A (.compStart (.ListComp elt [⟨target,iter,ifs,0⟩] sc pos) 0 it acc { cenv with scope:=relabel sc env }) (RR acc cenv.locals) s₄) E s₃) E s₂) E s₁) E s:=by
 simp only [and_eq_true] at hf;have hkind:=Q2 hf.1;refine ⟨_,Z1n e0 hc,hkind,Z1d ha,Z2J hs,?_⟩;refine Zr h1 r e0 R fun vx s1 ρ1 g1 n1 R1 hx e1=>?_;refine Z24 W.X W.C R1 h2 hx fun ρ2 it' st2' s2 hk2 hit g2 n2 R2=>?_
 cases hk2
 refine wpAny_newList ?_ (by unfold sizeLine;decide);have hng:¬ c.G (s2.heap.push { cls:=.type "list",data:=.seq #[] }).objs.size:=fun q=>by
  (refine xA (R2.big _ q) ?_;intro o0 _;obtain ⟨ob,e,_⟩:=o0)
  exact absurd (lt_size e) (by rw [size_push]; exact W0m (W03 _))
 have q3:=ρ2.ext_ag st2.n s2.heap.objs.size 0;have R3:Rel c (ρ2.ext st2.n s2.heap.objs.size 0) (st2.push (.list [])) { s2 with heap:=s2.heap.push { cls:=.type "list",data:=.seq #[] } }:=by
  refine R2.push W.C s2.toks trivial ⟨#[],0,?_,trivial⟩;rw [Rho.ext_a]; exact get?_push_size _ rfl
 have hcell:∀ x∈sc.names,x.2 ≠ .cell:=by
  intro x hx hcx;exact Z0m hc x hx hcx
 refine wpAny_newFunctionEnv (s:={ s2 with heap:=s2.heap.push { cls:=.type "list",data:=.seq #[] } }) hcell (fun u0 h=>nomatch h) (fun h' hn' sb=>?_) hkind;have R4:Rel c ((ρ2.ext st2.n s2.heap.objs.size 0).ext (st2.n+1) (s2.heap.push { cls:=.type "list",data:=.seq #[] }).objs.size 0) ((st2.push (.list [])).push (.frame [])) { s2 with heap:=h',toks:=s2.toks+0 }:=by
  have:=R3.new (h':=h') W.C (s2.toks+0) trivial (e:=0) (o:=.frame []) (fun b ob e=>sb.extBut b ob (W05 (lt_size e)) (get?_push_of_some _ e)) (W04 _) (by have e:=sb.1;rw [size_push] at e;omega) ⟨_,by rw [show (st2.push (.list [])).n=st2.n+1 from rfl]; rw [Rho.ext_a]; exact hn',fun x=>rfl⟩
  exact this
 have q4:=(ρ2.ext st2.n s2.heap.objs.size 0).ext_ag (st2.n+1) (s2.heap.push { cls:=.type "list",data:=.seq #[] }).objs.size 0;have ea:((ρ2.ext st2.n s2.heap.objs.size 0).ext (st2.n+1) (s2.heap.push { cls:=.type "list",data:=.seq #[] }).objs.size 0).a st2.n=s2.heap.objs.size:=by
  rw [(q4 st2.n (lt_succ_self _)).1,Rho.ext_a]
 have ei:((ρ2.ext st2.n s2.heap.objs.size 0).ext (st2.n+1) (s2.heap.push { cls:=.type "list",data:=.seq #[] }).objs.size 0).a it=ρ2.a it:=by
  rw [(q4 it (lt_succ_of_lt hit)).1,(q3 it hit).1]
 have el:((ρ2.ext st2.n s2.heap.objs.size 0).ext (st2.n+1) (s2.heap.push { cls:=.type "list",data:=.seq #[] }).objs.size 0).a (st2.n+1)=(s2.heap.push { cls:=.type "list",data:=.seq #[] }).objs.size:=Rho.ext_a _ _ _ _;have q24:Ag ρ2 _ st2.n:=q3.trans q4 (W03 _);have q04:Ag ρ _ st.n:=(g1.trans g2 n1).trans q24 (W01 n1 n2);have ec:Zc ((ρ2.ext st2.n s2.heap.objs.size 0).ext (st2.n+1) (s2.heap.push { cls:=.type "list",data:=.seq #[] }).objs.size 0) (st2.n+2) ⟨{ sc with names:=YG ξ sc.names },st2.n+1,cs,ξ.code,ξ.qual,ξ.lev⟩
   { newEnv sc (s2.heap.push { cls:=.type "list",data:=.seq #[] }).objs.size env.globals (cs.map fun p=>(p.1,ρ.a p.2)) env.qual none .none (some env) env.builtins with scope:=relabel sc env }:=by
  refine ⟨Z3P (Q2 hf.2) e0.sc,W02 _,el.symm,fun y j hj=>?_,e0.globals,e0.builtins,e0.code,e0.qual⟩;have hj':=Z0s e0 hc _ (Xk hj);exact ⟨W00 hj' (W01 (W01 n1 n2) (W07 _ 2)),by
   rw [(q04 j hj').1];exact Z0U hj⟩
 clear q4
 generalize ((ρ2.ext st2.n s2.heap.objs.size 0).ext (st2.n+1) (s2.heap.push { cls:=.type "list",data:=.seq #[] }).objs.size 0)=ρ4 at R4 q24 q04 ec ea ei el
 have loop:∀ {s':Shared},s'={ s2 with heap:=h',toks:=s2.toks+0 }→codeAny (model c.prog c.w) A (.compLoop (.ListComp elt [⟨target,iter,ifs,0⟩] sc pos) 0 (.ref (ρ2.a it)) (.ref s2.heap.objs.size)
   { newEnv sc (s2.heap.push { cls:=.type "list",data:=.seq #[] }).objs.size env.globals (cs.map fun p=>(p.1,ρ.a p.2)) env.qual none .none (some env) env.builtins with scope:=relabel sc env })
   (RR (.ref s2.heap.objs.size) (s2.heap.push { cls:=.type "list",data:=.seq #[] }).objs.size) s':=by
  intro s' hs';subst hs';rw [← ei,← ea,← el];exact hloop ρ4 _ _ (by rw [el]; exact ec) rfl R4 q04 (W01 n1 n2) hit (by rw [el]; exact hng)
 refine codeAny_compStart_list (loop rfl) ?_;rw [← ei];refine Z3C R4 ?_ (by rw [ei]; exact loop rfl);have:((st2.push (.list [])).push (.frame [])).get it=st2.get it:=by
  rw [St.get_push,if_neg (show ¬ it=(st2.push (.list [])).n from ne_of_lt (lt_succ_of_lt hit)),St.get_push,if_neg (ne_of_lt hit)]
 rw [this];exact hiter
theorem Z97 (C:c.Ok)(R:Rel c ρ st s)(x:Y0 c ρ st k (some fl) v s){α:Type}{Q:α→Shared→Prop}
  (hq:∀ s' fl',Rel c ρ st s'→Y0 c ρ st k (some fl') v s'→E v s'):wpAny M A (PySem.passOn what v env:Sem α) Q E s:=by
 have hx:=x
 (refine xEEEAAAAA hx ?_;(try clear hx);intro a oe vs o0 he hcls hd hfa o1;refine xAEEEA o1 ?_;clear o1;intro o2 T oT ts h1 _;subst o0;obtain ⟨a0,h0⟩:=o2)
 unfold PySem.passOn;refine W0j (wpAny_field he hd h1 ?_);rw [if_neg (show ¬ (Value.ref T==Value.none)=true from by simp)];exact W0j (Z0T C R x fun s' R' x'=>wpAny_throw (hq s' _ R' x'))
theorem Y0.del (x:Y0 c ρ st k fl v s)(hg:st.get i=some o)(hk:∀ b ob,b≠ρ.a i→s.heap.get? b=some ob→h'.get? b=some ob):Y0 c ρ (st.del i) k fl v { s with heap:=h',toks:=tk }:=by
 have fr:∀ a,YI c ρ st a→YI c ρ (st.del i) a:=fun a h=>⟨h.1,h.2.1,fun j oj e=>h.2.2 j oj (by
  rw [St.get_del] at e;by_cases q:j=i
  ·rw [if_pos q] at e;cases e
  ·rw [if_neg q] at e;exact e)⟩
 (refine xEEEAAAAA x ?_;(try clear x);intro a oe vs e1 he hcls hd hfa o0;refine xA o0 ?_;clear o0;intro h0 hx)
 refine ⟨a,oe,vs,e1,hk _ _ (fun q=>hfa.2.2 i o hg q.symm) he,hcls,hd,fr a hfa,h0,?_⟩
 cases fl with
 | none=>exact hx
 | some fl =>
  obtain ⟨T,oT,ts,h1,hfT,hTa,hT,r⟩:=hx;exact ⟨T,oT,ts,h1,fr T hfT,hTa,hk _ _ (fun q=>hfT.2.2 i o hg q.symm) hT,r⟩
theorem Z7d (W:Z5 c T)(hh:JJ ξ y p vp sc.names=true)(hf:(Zi sc.kind&&Zi ξ.sc.kind)=true)(hs:ZI iter=false)(hc:Yc ξ sc.names=some cs)(ha:Ja sc.names=true)
  (h1:Z0 c T (.ex iter ξ) st (.v x) st1) (h2:ZT T c.ro st1 x (fun i st=>some (.v (.ref i),st))=some (.v (.ref it),st2)) (hi:QB (st2.get it)=true)
  (h3:ZQ c T (.comp elt t ifs it st2.n ⟨{ sc with names:=YG ξ sc.names },st2.n+1,cs,ξ.code,ξ.qual,ξ.lev⟩) ((st2.push (.list [])).push (.frame [])) k st3) (hm:st3.get (st2.n+1)=some (.frame m)) :
  ZQ c T (.st (.Assign [.Name y p] (.ListComp elt [⟨t,iter,ifs,0⟩] sc vp) sp) ξ) st k (st3.del (st2.n+1)):=by
 intro A ρ env s r e0 R tp;have hf':=hf;simp only [and_eq_true] at hf';obtain ⟨cl,hcl,hk,hn,hs',hw⟩:=Z7a (A:=A) (E:=fun v s'=>JO c ρ st.n (st3.del (st2.n+1)) k v s') (elt:=elt) (target:=t) (ifs:=ifs) (pos:=vp)
  (RR:=fun acc C r s'=>compPost (model c.prog c.w) A (fun v s'=>JO c ρ st.n (st3.del (st2.n+1)) k v s') (some (assign (.Name y p) env)) (fun u0 u0=>False) acc C r s') W hf hs hc ha h1 h2 hi r e0 R (by
  intro ρ4 s4 env4 ec hfr R4 q04 n02 hit hng;have tp4:JN A env4:=by obtain ⟨a,l,L,q1,q2,q3⟩:=tp;exact ⟨a,l,L,q1,q2,hfr.trans q3⟩
  refine h3 A ρ4 env4 s4 _ iter sc vp r ec R4 (W00 hit (W07 _ 2)) (W00 (W02 st2.n) (W03 _)) tp4 fun v s5 z9=>xEEAAA z9 fun ρ5 fl g5 n5 R5 x5=>?_;have ef:ρ5.a (st2.n+1)=ρ4.a (st2.n+1):=(g5 (st2.n+1) (W02 _)).1;obtain ⟨f,hns,_⟩:=(R5.at_ _ _ hm).2.1;rw [ef] at hns;refine ⟨f,hns,fun h' sb cenv u0=>?_⟩;have keep:∀ b ob,b≠ρ5.a (st2.n+1)→s5.heap.get? b=some ob→h'.get? b=some ob:=fun b ob hb e=>sb.extBut b ob (by rw [← ef]; exact hb) e
  have R6:=R5.drop (h':=h') s5.toks hm keep (.inr (by rw [ef]; exact hng));have n5':st2.n+2≤st3.n:=n5;refine Z97 (α:=Value) W.C R6 (x5.del hm keep) fun s7 fl' R7 x7=>⟨ρ5,_,q04.trans g5 (W01 n02 (W07 _ 2)),?_,R7,x7⟩;show st.n≤st3.n;omega)
 rw [exec_Assign_Name_used _ _ _ _ (by rw [Z23 hf'.2 e0,hh])];refine W0j (W0l (W0j ?_));show wpAny _ A (do let _ ← comprehension (.ListComp elt [⟨t,iter,ifs,0⟩] sc vp) sc env _ (newList []) false (eval iter env) (some (assign (.Name y p) env))) _ _ s;exact W0j (wpAny_mono (wpAny_comprehension_free (use:=some (assign (.Name y p) env)) rfl hs' hcl hk hn hw) (fun u0 s' hq=>hq.elim) fun u0 u0 e=>e)
end
noncomputable abbrev Jd:Arguments:=⟨[],[],none,[],[],none,[]⟩
section
variable {c:Cfg}{T:Tab}{ρ:Rho}{st st' st1 st2 st3:St}{s:Shared}{A:Around}{E:Value→Shared→Prop}{ξ:Z3}{env:Env}{k:Nat}
theorem ZeY (hX:c.X)(W:Z5 c T)(rm:Zg c A (lev+1))(R:Rel c ρ st s)
  (hl:At c ρ st.n s.heap i (.lam e sc cs cv q)) (hcr:s.heap.CodeRec cv q)
  (hsc:(sc.names.all fun x=>x.2 != .cell)=true) (hk:sc.kind = .function) (hco:sc.isCoroutine=false) (hgen:sc.isGenerator=false)
  (h2:∀ L,ZQ (c.withG L) T (.ex e ⟨sc,st.n,cs,cv,ZU q,lev⟩) (st.push (.frame [])) k st') :
  wpAny (model c.prog c.w) A (call (.ref (ρ.a i)) []) (fun u0 u0=>False) (fun v s'=>JO c ρ st.n st' k v s') s:=by
 (refine xEEAAAAAA hl ?_;(try clear hl);intro o fd ho _ hd l1 l2 l3 o0;refine xAAAAAAA o0 ?_;clear o0;intro hcs l4 l5 l6 l7 l8 l9 l10)
 refine wpAny_call (kla_callFunE (body:=e) rm.room ho hd (by rw [l2]; exact hco) (by rw [l2]; exact hgen) l1 (by rw [l9,l10]; exact hcr) ?_);have hb:bindArgs fd ⟨[],[]⟩=pure []:=by
  induction fd using PySem.FuncData.casesOn
  cases l4;cases l5;cases l6
  rfl
 rw [hb,l2,l3,l7,l8,l9,l10];have hcell:∀ x∈sc.names,x.2 ≠ .cell:=fun x hx=>by have:=all_eq_true.mp hsc x hx;simpa using this
 refine W0k (wpAny_newFunctionEnv hcell nofun (fun h' hns hsb=>?_) hk);have keep:∀ b o,s.heap.get? b=some o→h'.get? b=some o:=fun b o e=>hsb.extBut b o (W05 (lt_size e)) (get?_push_of_some _ e);have g:=ρ.ext_ag st.n s.heap.objs.size 0;obtain ⟨ob,es,ep,eo,ed,_⟩:=id hns;have R1:Rel (c.withG s.heap.objs.size) (ρ.ext st.n s.heap.objs.size 0) (st.push (.frame [])) { s with heap:=h',toks:=s.toks+0 }:=by
  have R0:=R.new (h':=h') W.C (s.toks+0) trivial (e:=0) (o:=.frame []) keep (W04 _) hns.lt ⟨_,by rw [Rho.ext_a]; exact hns,fun x=>rfl⟩;refine Rel.withG (c:=c) (L:=s.heap.objs.size) R0 eo (fun vs q=>by rw [ed] at q;cases q) (fun q=>absurd (R.old_lt W.C q) (lt_irrefl _)) fun j o e q=>?_;rw [St.get_push] at e;by_cases hi:j=st.n
  ·rw [if_pos hi] at e;cases e;rfl
  ·rw [if_neg hi] at e;obtain ⟨k1,k2,_⟩:=R.at_ j o e;obtain ⟨ob,hob⟩:=k2.some;rw [(g j k1).1] at q;exact absurd (lt_size hob) (by rw [q]; exact lt_irrefl _)
 refine ⟨Z2E (W.withG _).C R1,kla_codeExpr ?_⟩;have eE:Zc (ρ.ext st.n s.heap.objs.size 0) (st.n+1) ⟨sc,st.n,cs,cv,ZU q,lev⟩
   (newEnv sc s.heap.objs.size mainGlobals (cs.map fun p=>(p.1,ρ.a p.2)) (q++".<locals>.") (some (ρ.a i)) cv none builtinsNs):=by
  refine ⟨rfl,W02 _,(Rho.ext_a _ _ _ _).symm,fun y j hj=>?_,rfl,rfl,rfl,rfl⟩;have hj':=hcs _ (Xk hj);refine ⟨W08 hj',?_⟩;rw [(g j hj').1];exact Z0U hj
 obtain ⟨fr,hfrm,_⟩:=rm.fr hX;have tp:JN (A.deeper (newEnv sc s.heap.objs.size mainGlobals (cs.map fun p=>(p.1,ρ.a p.2)) (q++".<locals>.") (some (ρ.a i)) cv none builtinsNs)) (newEnv sc s.heap.objs.size mainGlobals (cs.map fun p=>(p.1,ρ.a p.2)) (q++".<locals>.") (some (ρ.a i)) cv none builtinsNs):=⟨_,fr,_,Around.frames_deeper hfrm,rfl,rfl⟩;have rm1:Zg (c.withG s.heap.objs.size) (A.deeper (newEnv sc s.heap.objs.size mainGlobals (cs.map fun p=>(p.1,ρ.a p.2)) (q++".<locals>.") (some (ρ.a i)) cv none builtinsNs)) lev:=rm.in_ (by show sc.kind ≠ .module;rw [hk]; nofun) rfl
 refine wpAny_mono (h2 _ _ _ _ _ rm1 eE R1 tp) (fun u0 u0 z=>z.elim) fun v s4 z=>?_;unfold leaving;refine W0j (Z1t (c:=c.withG s.heap.objs.size) (T:=T) hX (W.withG _) rm1 tp z fun s5 z9=>xEEAAA z9 fun ρ5 fl g5 n5 R5 x5=>?_);have n5':st.n+1≤st'.n:=n5;exact Z0T (W.withG _).C R5 x5 fun s6 R6 x6=>⟨ρ5,_,g.trans g5 (W03 _),by omega,R6.noG,x6.noG⟩
end
section
variable {c:Cfg}{T:Tab}{ρ:Rho}{st st' st1 st2 st3:St}{s:Shared}{A:Around}{E:Value→Shared→Prop}{ξ:Z3}{env:Env}{k:Nat}
theorem Z2S (W:Z5 c T)(hn:Yb T c.ro ξ X st=some (.old a))(hd:decide (X=dbg)=false)(R:Rel c ρ st s)(e0:Zc ρ st.n ξ env)(x:Y0 c ρ st k fl v s)(hx:exmOne c.K (.ref k) (.ref a)=some b)
  (h:RR (.ok (if b then .brk else .next)) s):codeAny (model c.prog c.w) A (.handlers v [.ExceptHandler (some (.Name X p1)) none [] pos] env) RR s:=by
 refine codeAny_handlers_test (wpAny_Name (Z4q W.X hn R e0 fun u hu=>?_) (by rw [Q1]; exact hd))
 cases hu
 (refine xEEEAAA x ?_;(try clear x);intro a' oe vs o0 he hcls _;subst o0)
 exact Looks.here (exm_one (R.kin W.C) (hcls▸(Looks.ld he).andThen .now) hx) h
theorem Z7x (W:Z5 c T)(hn:Yb T c.ro ξ X st=some (.old a))(hd:decide (X=dbg)=false)(R:Rel c ρ st s)(e0:Zc ρ st.n ξ env)(x:Y0 c ρ st k fl v s)(hx:exmOne c.K (.ref k) (.ref a)=some false)
  (h:wpAny (model c.prog c.w) A (handleBy v env rest) Q E s):wpAny (model c.prog c.w) A (handleBy v env (.ExceptHandler (some (.Name X p1)) none body pos::rest)) Q E s:=by
 refine wpAny_handleBy_cons (Z2S W hn hd R e0 x hx h) ?_
 (refine xEEEA x ?_;(try clear x);intro a' _ _ o0 _;subst o0)
 nofun
theorem Z6w (W:Z5 c T)(hn:Yb T c.ro ξ X st=some (.old a))(hd:decide (X=dbg)=false)(R:Rel c ρ st s)(e0:Zc ρ st.n ξ env)(x:Y0 c ρ st k (some fl) v s)(hx:exmOne c.K (.ref k) (.ref a)=some true)
  (h:∀ s' t,Rel c ρ st s'→Q (.ret (.str w t)) s'):wpAny (model c.prog c.w) A (handleBy v env (.ExceptHandler (some (.Name X p1)) none [.Return (some (.Constant (.str w) kk p2)) p3] pos::rest)) Q E s:=by
 refine wpAny_handleBy_cons (Z2S W hn hd R e0 x hx ?_) ?_
 ·refine codeAny_handlers_suite (Z0T W.C R x fun s1 R1 x1=>?_);refine wpAny_execs_cons (wpAny_Return_some ?_);rw [eval_Constant];exact wpAny_mkText (h _ _ (R1.toks _))
 ·(refine xEEEA x ?_;(try clear x);intro a' _ _ o0 _;subst o0)
  nofun
end
noncomputable def St.gap (st:St)(k:Nat):St:=⟨st.n+k,st.t⟩
def Jr:ZF:=Z8 (Ze 73) [] 600 "_law_answer"
theorem Z6t:∃ p1 p2 p3 p4 p5 p6 p7 p8 p9 p10 p11 p12 k1 k2,Jr.body=[.Try [.Return (some (.Call (.Name "call" p1) [] [] p2)) p3]
  [.ExceptHandler (some (.Name "LimitFault" p4)) none [.Return (some (.Constant (.str "limit") k1 p5)) p6] p7,.ExceptHandler (some (.Name "SheetFault" p8)) none [.Return (some (.Constant (.str "sheet") k2 p9)) p10] p11] [] [] p12]:=⟨_,_,_,_,_,_,_,_,_,_,_,_,_,_,rfl⟩
section
variable {c:Cfg}{T:Tab}{ρ:Rho}{st st' st1 st2 st3:St}{s:Shared}{A:Around}{E:Value→Shared→Prop}{ξ:Z3}{env:Env}{k:Nat}
theorem Z9a (st:St)(v:MV)(lev:Nat):∃ st1,ZO Jr [v] lev st=some (.u,st1)∧st1.n=st.n+1∧st1.get st.n=some (.frame [("call",v)])∧∀ i,i≠st.n→st1.get i=st.get i:=by
 have e:ZO Jr [v] lev st=Zx (Zv Jr st.n lev) "call" v (st.push (.frame [])) fun st2=>some (.u,st2):=rfl;have g:(st.push (.frame [])).get st.n=some (.frame []):=by rw [St.get_push,if_pos rfl]
 have e2:Zx (Zv Jr st.n lev) "call" v (st.push (.frame [])) (fun st2=>some (.u,st2))=some (.u,(st.push (.frame [])).put st.n (.frame [("call",v)])):=by
  unfold Zx;show (match (st.push (.frame [])).get st.n with | some (.frame m)=>some (Out.u,(st.push (.frame [])).put st.n (.frame (Zh "call" v m))) | _=>none)=_;rw [g]; rfl
 refine ⟨_,e.trans e2,rfl,?_,fun i hi=>?_⟩
 ·rw [St.get_put,if_pos rfl]
 ·rw [St.get_put,if_neg hi,St.get_push,if_neg hi]
theorem Rel.forget (R:Rel c ρ st s)(hn:st0.n=st.n)(h:∀ i o,st0.get i=some o→st.get i=some o):Rel c ρ st0 s :=
 ⟨fun L g=>xAA (R.big L g) fun a b d=>⟨a,b,fun i o e q=>d i o (h i o e) q⟩,fun i o e=>by rw [hn]; exact R.at_ i o (h i o e),fun i j oi oj ei ej q=>R.inj i j oi oj (h _ _ ei) (h _ _ ej) q,fun i o e=>by rw [hn]; exact R.ro i o e,R.keep,R.gens,R.os,R.drawn⟩
theorem ZdT (hX:c.X)(W:Z5 c T)(hr:T.fn 601=some Jr)(hg1:T.glob "LimitFault"=some (.old 101))(hg2:T.glob "SheetFault"=some (.old 77)){C:Nat}{b1:Bool}(hm1:exmOne c.K (.ref C) (.ref 101)=some b1)(hm2:b1=false→exmOne c.K (.ref C) (.ref 77)=some true)
  {q:Str} {e:Expr} {sc:Scope} {cs:List (Str×Nat)} {cv:Value} {lev:Nat} (rm:Zg c A (lev+2)) (R:Rel c ρ (st.push (.lam e sc cs cv q)) s) (hcr:∃ jc,jc<st.n∧st.get jc=some (.code q)∧cv = .ref (ρ.a jc))
  (hst:∀ i o,st.get i=some o→i<st.n) (hsc:(sc.names.all fun x=>x.2 != .cell)=true) (hk:sc.kind = .function) (hco:sc.isCoroutine=false) (hgen:sc.isGenerator=false)
  (h2:∀ L L',ZQ ((c.withG L).withG L') T (.ex e ⟨sc,st.n+2,cs,cv,ZU q,lev⟩) ((st.gap 2).push (.frame [])) C st') :
  wpAny (model c.prog c.w) A (call (.ref 601) [.ref (ρ.a st.n)]) (fun v s'=>Z7 c ρ st.n st' s' fun ρ'=>(MV.str (if b1 then "limit" else "sheet")).Is ρ' st'.n v) E s:=by
 obtain ⟨st1,h1,hn,hg,hge⟩:=Z9a (st.push (.lam e sc cs cv q)) (.ref st.n) (lev+1);have hn:st1.n=st.n+2:=hn;have hlam:st1.get st.n=some (.lam e sc cs cv q):=by
  rw [hge st.n (ne_of_lt (lt_succ_self _)),St.get_push,if_pos rfl]
 (refine xEEEEEEEE Z6t ?_;(try clear Z6t);intro p1 p2 p3 p4 p5 p6 p7 p8 o0;refine xEEEEEE o0 ?_;clear o0;intro p9 p10 p11 p12 k1 k2 hbody)
 obtain ⟨jc,hjl,hjc,hcv⟩:=hcr;refine wpAny_call (Z2g W (W.X.fn _ _ hr) (args:=[.ref st.n]) (bs:=[.ref st.n]) (vs:=[.ref (ρ.a st.n)]) rfl h1 rm R ⟨⟨W02 _,rfl⟩,trivial⟩ fun env ρ1 s1 rm1 e1 R1 g1 n1 hfr hkind hL=>?_);have W1:=W.withG s.heap.objs.size;have gn:(st.push (.lam e sc cs cv q)).n=st.n+1:=rfl;rw [gn] at g1 e1 hg hge hfr hL;rw [hbody];have n1:st.n+1≤st1.n:=n1
 have hcode1:st1.get jc=some (.code q):=by
  rw [hge jc (by omega),St.get_push,if_neg (by omega),hjc]
 have Rg:Rel (c.withG s.heap.objs.size) ρ1 (st.gap 2) s1:=R1.forget (by show st.n+2=st1.n;omega) fun i o h=>by
  have h:st.get i=some o:=h;have:=hst i o h;rw [hge i (by omega),St.get_push,if_neg (by omega),h]
 have hLam:At (c.withG s.heap.objs.size) ρ1 (st.gap 2).n s1.heap st.n (.lam e sc cs cv q):=by
  have:=(R1.at_ _ _ hlam).2.1
  rw [hn] at this;exact this
 have hCode:s1.heap.CodeRec cv q:=by
  obtain ⟨o,vs,t,h1,h2,h3⟩:=(R1.at_ _ _ hcode1).2.1;rw [(g1 jc (by omega)).1] at h1;exact ⟨_,o,vs,t,hcv,h1,h2,h3⟩
 have name1:Yb T c.ro (Zv Jr (st.n+1) (lev+1)) "call" st1=some (.ref st.n):=by
  show (gF (rd c.ro st1 (st.n+1))).bind (Z2 "call")=_
  unfold rd;rw [hg]; rfl
 refine wpAny_execs_cons (wpAny_Try_except ?_);refine wpAny_execs_cons (wpAny_Return_some ?_);have he:eval (.Call (.Name "call" p1) [] [] p2) env=(do callWith p2 (← eval (.Name "call" p1) env) [] (backTo p2 (starEach [] env)) []):=rfl;rw [he];refine W0j (wpAny_Name (Z4q (c:=c.withG s.heap.objs.size) W1.X name1 R1 e1 fun u hu=>?_) (by rfl))
 (refine xA hu ?_;(try clear hu);intro _ o1;subst o1)
 have hfn:FnAt (ρ1.a st.n) s1.heap:=by
  (refine xEEAAA hLam ?_;(try clear hLam);intro o2 fd h1 h2 h3 _;obtain ⟨oc,od,odt,sl⟩:=o2)
  cases h3
  exact ⟨_,_,_,_,h1⟩
 refine callWith_of (P:=FnAt (ρ1.a st.n)) rfl (fun h X=>keeps_F h X) (Z2Q (es:=[]) rfl (spliced_none ⟨hfn,?_⟩));show wpAny _ _ (call (.ref (ρ1.a st.n)) []) _ _ s1;refine wpAny_mono (ZeY (c:=c.withG s.heap.objs.size) (lev:=lev) hX W1 rm1 Rg hLam hCode hsc hk hco hgen (h2 _)) (fun u0 u0 z=>z.elim) fun v s2 z=>?_;obtain ⟨fr,hfrm,_⟩:=rm.fr hX;have tp:JN (A.deeper env) env:=⟨env,fr,_,Around.frames_deeper hfrm,hfr,hfr⟩
 refine Z1t (c:=c.withG s.heap.objs.size) (T:=T) hX W1 rm1 tp z fun s3 z9=>xEEAAA z9 fun ρ3 fl g3 n3 R3 x3=>?_;refine Z0T W1.C R3 x3 fun s4 R4 x4=>?_;have n3:st.n+2≤st'.n:=n3;have done:∀ w:Str,∀ s' t,Rel (c.withG s.heap.objs.size) ρ3 st' s'→Z7 c ρ st.n st' s' fun ρ'=>(MV.str w).Is ρ' st'.n (.str w t):=fun w s' t R'=>⟨ρ3,fun i hi=>⟨(g3 i (by show i<st.n+2;omega)).1.trans (g1 i (by omega)).1,(g3 i (by show i<st.n+2;omega)).2.trans (g1 i (by omega)).2⟩,by omega,R'.noG,t,rfl⟩
 have e4:Zc ρ3 st'.n (Zv Jr (st.n+1) (lev+1)) env:=e1.mono (by rw [hn]; exact g3) (by omega)
 cases b1 with
 | true=>exact Z6w (c:=c.withG s.heap.objs.size) (st:=st') W1 (show Yb T c.ro (Zv Jr (st.n+1) (lev+1)) "LimitFault" st'=some (.old 101) from hg1) rfl R4 e4 x4 hm1 fun s' t R'=>done _ _ _ R'
 | false =>
  refine Z7x (c:=c.withG s.heap.objs.size) (st:=st') W1 (show Yb T c.ro (Zv Jr (st.n+1) (lev+1)) "LimitFault" st'=some (.old 101) from hg1) rfl R4 e4 x4 hm1 ?_;exact Z6w (c:=c.withG s.heap.objs.size) (st:=st') W1 (show Yb T c.ro (Zv Jr (st.n+1) (lev+1)) "SheetFault" st'=some (.old 77) from hg2) rfl R4 e4 x4 (hm2 rfl) fun s' t R'=>done _ _ _ R'
end
theorem Z71 (l:List Value)(h:TriplesOk l)(hn:codeAmong pos l=none) :
  codeAmong pos' (l++[rawInt pos.line,rawInt pos.col,v])=if pos.line=pos'.line∧pos.col=pos'.col then some v else codeAmong pos' l:=by
 fun_induction TriplesOk l with
 | case1 =>
  simp only [List.nil_append,codeAmong,rawInt];by_cases h1:pos.line=pos'.line<;>by_cases h2:pos.col=pos'.col<;>simp [h1,h2,codeAmong]<;>omega
 | case2 a _ b _ w rest ih =>
  simp only [List.cons_append,codeAmong] at hn ⊢;by_cases q:((a==(pos.line:Int))&&(b==(pos.col:Int)))=true
  ·rw [if_pos q] at hn;cases hn
  ·rw [if_neg q] at hn;by_cases q':((a==(pos'.line:Int))&&(b==(pos'.col:Int)))=true
   ·rw [if_pos q',if_pos q'];by_cases z:pos.line=pos'.line∧pos.col=pos'.col
    ·rw [z.1,z.2] at q;exact absurd q' q
    ·rw [if_neg z]
   ·rw [if_neg q',if_neg q'];exact ih h hn
 | case3=>exact h.elim
theorem Z4G {a b:Nat}(l:List Value)(h:TriplesOk l):TriplesOk (l++[rawInt a,rawInt b,v]):=by
 fun_induction TriplesOk l with
 | case1=>trivial
 | case2 a _ b _ w rest ih=>exact ih h
 | case3=>exact h.elim
theorem Z74:ZS l k ((a,b,j)::es)=if a=l∧b=k then some j else ZS l k es:=by
 show (match beq a l&&beq b k with | true=>some j | false=>ZS l k es)=_
 rw [Tr.beq_eq,Tr.beq_eq];by_cases h1:a=l<;>by_cases h2:b=k<;>simp [h1,h2]
section
variable {c:Cfg}{T:Tab}{ρ:Rho}{st st' st1 st2 st3:St}{s:Shared}{A:Around}{E:Value→Shared→Prop}{ξ:Z3}{env:Env}{k:Nat}
theorem Rel.grow (R:Rel c ρ st s)(C:c.Ok)(htab:st.get jt=some (.tab P ps q0 es))(t:Nat)(kp:∀ b ob,b≠P→s.heap.get? b=some ob→h'.get? b=some ob)(hc:s.heap.objs.size≤c')
  (x1:At c (ρ.ext st.n c' 0) (st.n+1) h' st.n (.code q)) (x2:At c (ρ.ext st.n c' 0) (st.n+1) h' jt (.tab P ps q0 es')) :
  Rel c (ρ.ext st.n c' 0) ((st.push (.code q)).put jt (.tab P ps q0 es')) { s with heap:=h',toks:=t }:=by
 have g:=ρ.ext_ag st.n c' 0
 (refine xAA (R.at_ jt _ htab) ?_;intro hj o0 hUP;obtain ⟨hP,_⟩:=o0)
 have hjn:jt≠st.n:=W05 hj;have get:∀ j oj,((st.push (.code q)).put jt (.tab P ps q0 es')).get j=some oj→(j=jt∧oj = .tab P ps q0 es')∨(j=st.n∧oj = .code q)∨(j<st.n∧j≠jt∧st.get j=some oj):=by
  intro j oj e;rw [St.get_put] at e;by_cases hjj:j=jt
  ·rw [if_pos hjj] at e;exact .inl ⟨hjj,(W0g e).symm⟩
  ·rw [if_neg hjj,St.get_push] at e;by_cases hjs:j=st.n
   ·rw [if_pos hjs] at e;exact .inr (.inl ⟨hjs,(W0g e).symm⟩)
   ·rw [if_neg hjs] at e;exact .inr (.inr ⟨(R.at_ j oj e).1,hjj,e⟩)
 have aj:(ρ.ext st.n c' 0).a jt=P:=by rw [(g jt hj).1,hP]
 have an:(ρ.ext st.n c' 0).a st.n=c':=Rho.ext_a _ _ _ _;have old:∀ b ob,s.heap.get? b=some ob→b≠c':=fun b ob e q=>by rw [q] at e;exact absurd (lt_size e) (W0m hc)
 have neP:∀ j oj,st.get j=some oj→j≠jt→ρ.a j≠P:=fun j oj e ne q=>ne (R.inj j jt _ _ e htab (q.trans hP.symm));have hPs:∃ ob,s.heap.get? P=some ob:=by rw [← hP]; exact (R.at_ jt _ htab).2.1.some
 refine ⟨fun L hL=>?_,fun j oj e=>?_,fun j l oj ol ej el qq=>?_,fun j oj e=>?_,fun b ob e hub=>?_,R.gens,R.os,R.drawn⟩
 ·(refine xAA (R.big L hL) ?_;intro o1 hu' hfr;obtain ⟨ob,e1,d⟩:=o1)
  have hLP:L≠P:=fun z=>by have:=hfr jt _ htab (hP.trans z.symm);cases this
  refine ⟨⟨ob,kp _ _ hLP e1,d⟩,hu',fun j oj ej z=>?_⟩;rcases get j oj ej with ⟨rfl,rfl⟩ | ⟨rfl,rfl⟩ | ⟨hj',_,ej⟩
  ·exact absurd (z.symm.trans aj) hLP
  ·rw [an] at z;exact absurd z.symm (old L ob e1)
  ·rw [(g j hj').1] at z;exact hfr j oj ej z
 ·rcases get j oj e with ⟨rfl,rfl⟩ | ⟨rfl,rfl⟩ | ⟨hj',ne,e⟩
  ·exact ⟨W08 hj,x2,by rw [aj,← hP]; exact hUP⟩
  ·exact ⟨W02 _,x1,fun z=>by rw [an] at z;exact absurd (R.old_lt C z) (W0m hc)⟩
  ·obtain ⟨h1,h2,h3⟩:=R.at_ j oj e;obtain ⟨ob,hob⟩:=h2.some;exact ⟨W08 h1,(h2.heap ((kp _ _ (neP j oj e ne) hob).trans hob.symm)).mono g (W03 _) h1,by rw [(g j h1).1]; exact h3⟩
 ·have adr:∀ j oj,st.get j=some oj→j<st.n→(ρ.ext st.n c' 0).a j=ρ.a j∧ρ.a j≠c':=fun j oj e hj'=>⟨(g j hj').1,by obtain ⟨ob,hob⟩:=(R.at_ j oj e).2.1.some;exact old _ _ hob⟩;obtain ⟨obP,hobP⟩:=hPs;have hPc:=old P obP hobP;rcases get j oj ej with ⟨rfl,rfl⟩ | ⟨rfl,rfl⟩ | ⟨hj',ne,ej'⟩<;>rcases get l ol el with ⟨h1,h2⟩ | ⟨h1,h2⟩ | ⟨hl',nel,el'⟩
  ·exact h1.symm
  ·subst h1;rw [aj,an] at qq;exact absurd qq hPc
  ·rw [aj,(adr l ol el' hl').1] at qq;exact absurd qq.symm (neP l ol el' nel)
  ·subst h1;rw [aj,an] at qq;exact absurd qq.symm hPc
  ·exact h1.symm
  ·rw [an,(adr l ol el' hl').1] at qq;exact absurd qq.symm (adr l ol el' hl').2
  ·subst h1;rw [aj,(adr j oj ej' hj').1] at qq;exact absurd qq (neP j oj ej' ne)
  ·subst h1;rw [an,(adr j oj ej' hj').1] at qq;exact absurd qq (adr j oj ej' hj').2
  ·rw [(adr j oj ej' hj').1,(adr l ol el' hl').1] at qq;exact R.inj j l _ _ ej' el' qq
 ·obtain ⟨h1,h2,h3,h4⟩:=R.ro j oj e;obtain ⟨ob,hob⟩:=h2.some;have:ρ.a j≠P:=fun z=>hUP (by rw [hP,← z]; exact h3);exact ⟨W08 h1,(h2.heap ((kp _ _ this hob).trans hob.symm)).mono g (W03 _) h1,by rw [(g j h1).1]; exact h3,by rw [(g j h1).1]; exact h4⟩
 ·have z:=R.keep b ob e hub
  (refine xE (z.some) ?_;intro ob' hob')
  have:b≠P:=fun w=>hUP (by rw [hP,← w]; exact hub)
  show Yh (c.F b) ob (h'.get? b)
  rw [kp _ _ this hob',← hob']; exact z
end
structure Xo (c:Cfg)(P cc:Addr):Prop where
 built:∃ mg,c.h0.Ns mainGlobals mg∧c.U mainGlobals∧¬ c.F mainGlobals∧∃ bm o,mg "__builtins__"=some (.ref bm)∧bm≠builtinsNs∧bm≠mainGlobals∧c.h0.get? bm=some o∧c.U bm∧¬ c.F bm∧o.cls = .type "module"∧o.dict=some builtinsNs∧o.data = .plain
 code:∀ h:Heap,c.K.In h→CodeHd h cc P
section
variable {c:Cfg}{T:Tab}{ρ:Rho}{st st' st1 st2 st3:St}{s:Shared}{A:Around}{E:Value→Shared→Prop}{ξ:Z3}{env:Env}{k:Nat}
noncomputable abbrev ZP (ξ:Z3):Str:=ξ.qual++"<lambda>"
noncomputable abbrev ZhD (st:St)(jt:Nat)(P:Addr)(ps:Array Value)(q0:Str)(es:List (Nat×Nat×Nat))(lp:Pos)(q:Str):St:=(st.push (.code q)).put jt (.tab P ps q0 ((lp.line,lp.col,st.n)::es))
theorem Z5g (O:Xo c P cc)(R:Rel c ρ st s)(htab:st.get jt=some (.tab P ps q0 es)) :
  ∃ mg,s.heap.Ns mainGlobals mg∧mainGlobals≠P∧s.heap.BuiltinsAt mg P:=by
 (refine xEAAAEEAA (O.built) ?_;intro mg h1 h2 h3 bm o b1 b2 o0;refine xAAAAAA o0 ?_;clear o0;intro b3 b4 b5 b6 b7 b8 b9)
 (refine xAA (R.at_ _ _ htab) ?_;intro _ o1 hUP;obtain ⟨hP,_⟩:=o1)
 rw [hP] at hUP;exact ⟨mg,Z7c R h1 h2 h3,fun q=>hUP (q▸h2),bm,o,b1,b2,b3,fun q=>hUP (q▸b5),(R.keep bm o b4 b5).solid b6,b7,b8,b9⟩
theorem Zak (W:Z5 c T)(O:Xo c P cc)(hcc:ξ.code = .ref cc)(htab:st.get jt=some (.tab P ps q0 es))(hmiss:ZS lp.line lp.col es=none)
  (hc:Yc ξ sc.names=some cs) (R:Rel c ρ st s) (e0:Zc ρ st.n ξ env) 
  (hq:∀ ρ' s',Ag ρ ρ' st.n→Rel c ρ' ((ZhD st jt P ps q0 es lp (ZP ξ)).push (.lam e sc cs (.ref (ρ'.a st.n)) (ZP ξ))) s'→Q (.ref (ρ'.a (st.n+1))) s') :
  wpAny (model c.prog c.w) A (eval (.Lambda Jd e sc lp) env) Q E s:=by
 obtain ⟨mg,hg,hgP,hb⟩:=Z5g O R htab
 (refine xAA (R.at_ _ _ htab) ?_;intro hj o0 hUP;obtain ⟨hP,⟨more,hget,htr,hlook⟩,hes⟩:=o0)
 rw [hP] at hget;refine kla_eval rfl (kla_makeFunction (Z1n e0 hc) e0.globals hg (e0.code.trans hcc) (O.code _ (R.kin W.C)) hget htr (by rw [hlook,hmiss]; rfl) hgP hb fun c' ctv h' tk hx hge hlt hrec htb=>?_);have g:=ρ.ext_ag st.n c' 0;have hqual:env.qual++"<lambda>"=ZP ξ:=by rw [e0.qual]
 rw [hqual] at hrec;have x1:At c (ρ.ext st.n c' 0) (st.n+1) h' st.n (.code (ZP ξ)):=by
  obtain ⟨b,o,vs,t,h1,h2,h3,h4⟩:=hrec
  cases h1
  exact ⟨o,vs,t,by rw [Rho.ext_a]; exact h2,h3,h4⟩
 have x2:At c (ρ.ext st.n c' 0) (st.n+1) h' jt (.tab P ps q0 ((lp.line,lp.col,st.n)::es)):=by
  refine ⟨by rw [(g jt hj).1,hP],⟨more++#[rawInt lp.line,rawInt lp.col,.ref c'],?_,?_,fun pos=>?_⟩,fun p hp=>?_⟩
  ·rw [(g jt hj).1,hP,← Array.append_assoc]; exact htb
  ·rw [← Array.append_assoc,Array.toList_append];exact Z4G _ htr
  ·rw [← Array.append_assoc,Array.toList_append];rw [show (#[rawInt lp.line,rawInt lp.col,Value.ref c']:Array Value).toList=[rawInt lp.line,rawInt lp.col,.ref c'] from rfl,Z71 _ htr (by rw [hlook,hmiss]; rfl),Z74];by_cases z:lp.line=pos.line∧lp.col=pos.col
   ·rw [if_pos z,if_pos z];show _=some (Value.ref _);rw [Rho.ext_a]
   ·rw [if_neg z,if_neg z,hlook]
    cases hl:ZS pos.line pos.col es with
    | none=>rfl
    | some j =>
     show some (Value.ref _)=some (Value.ref _)
     rw [(g j (hes _ (Z1b hl))).1]
  ·rcases W0i hp with rfl | hp
   ·exact W02 _
   ·exact W08 (hes p hp)
 have R1:=R.grow W.C htab tk (fun b ob hb' e=>hx b ob hb' e) hge x1 x2;have g2:=(ρ.ext st.n c' 0).ext_ag (st.n+1) h'.objs.size 0;have hcs:=Z0s e0 hc;have R2:=R1.push W.C tk trivial (e:=0) (o:=.lam e sc cs (.ref c') (ZP ξ)) (ob:=kla_obj "<lambda>" (ZP ξ) Jd e sc (cs.map fun p=>(p.1,ρ.a p.2)) ((mg "__name__").getD .none) c' ctv) (by
  refine ⟨kla_obj "<lambda>" (ZP ξ) Jd e sc (cs.map fun p=>(p.1,ρ.a p.2)) ((mg "__name__").getD .none) c' ctv,kla_fn "<lambda>" (ZP ξ) Jd e sc (cs.map fun p=>(p.1,ρ.a p.2)) ((mg "__name__").getD .none) (.ref c') ctv,?_,rfl,rfl,rfl,rfl,?_,fun p hp=>?_,rfl,rfl,rfl,rfl,rfl,rfl,rfl⟩
  ·show (h'.push _).get? (((ρ.ext st.n c' 0).ext (st.n+1) h'.objs.size 0).a (st.n+1))=_
   rw [Rho.ext_a]; exact get?_push_size _ rfl
  ·refine W0f fun p hp=>?_;have hp':=hcs p hp;show (p.1,ρ.a p.2)=(p.1,((ρ.ext st.n c' 0).ext (st.n+1) h'.objs.size 0).a p.2);rw [(g2 p.2 (lt_succ_of_lt hp')).1,(g p.2 hp').1]
  ·exact W08 (W08 (hcs p hp)))
 have an:((ρ.ext st.n c' 0).ext (st.n+1) h'.objs.size 0).a st.n=c':=by rw [(g2 st.n (lt_succ_self _)).1,Rho.ext_a]
 have am:((ρ.ext st.n c' 0).ext (st.n+1) h'.objs.size 0).a (st.n+1)=h'.objs.size:=Rho.ext_a _ _ _ _;have:=hq ((ρ.ext st.n c' 0).ext (st.n+1) h'.objs.size 0) _ (g.trans g2 (W03 _)) (by rw [an]; exact R2);rw [am] at this;rw [hqual];exact this
theorem Zcd (W:Z5 c T)(O:Xo c P cc)(hcc:ξ.code = .ref cc)(htab:st.get jt=some (.tab P ps q0 es))(hhit:ZS lp.line lp.col es=some j)
  (hc:Yc ξ sc.names=some cs) (R:Rel c ρ st s) (e0:Zc ρ st.n ξ env) 
  (hq:∀ ρ' s',Ag ρ ρ' st.n→Rel c ρ' (st.push (.lam e sc cs (.ref (ρ'.a j)) (ZP ξ))) s'→Q (.ref (ρ'.a st.n)) s') :
  wpAny (model c.prog c.w) A (eval (.Lambda Jd e sc lp) env) Q E s:=by
 obtain ⟨mg,hg,hgP,hb⟩:=Z5g O R htab
 (refine xAA (R.at_ _ _ htab) ?_;intro hj o0 hUP;obtain ⟨hP,⟨more,hget,htr,hlook⟩,hes⟩:=o0)
 rw [hP] at hget;refine kla_eval rfl (kla_makeFunctionHit (cv:=.ref (ρ.a j)) (Z1n e0 hc) e0.globals hg (e0.code.trans hcc) (O.code _ (R.kin W.C)) hget htr (by rw [hlook,hhit]; rfl) hb fun ctv h' tk hx hge=>?_);have hqual:env.qual++"<lambda>"=ZP ξ:=by rw [e0.qual]
 have g:=ρ.ext_ag st.n h'.objs.size 0;have hcs:=Z0s e0 hc;have ej:(ρ.ext st.n h'.objs.size 0).a j=ρ.a j:=(g j (hes _ (Z1b hhit))).1;have R2:=(R.more tk hx).push W.C tk trivial (e:=0) (o:=.lam e sc cs (.ref ((ρ.ext st.n h'.objs.size 0).a j)) (ZP ξ)) (ob:={ cls:=.type "function",data:=.func (kla_fn "<lambda>" (ZP ξ) Jd e sc (cs.map fun p=>(p.1,ρ.a p.2)) ((mg "__name__").getD .none) (.ref (ρ.a j)) ctv) }) (by
  refine ⟨{ cls:=.type "function",data:=.func (kla_fn "<lambda>" (ZP ξ) Jd e sc (cs.map fun p=>(p.1,ρ.a p.2)) ((mg "__name__").getD .none) (.ref (ρ.a j)) ctv) },kla_fn "<lambda>" (ZP ξ) Jd e sc (cs.map fun p=>(p.1,ρ.a p.2)) ((mg "__name__").getD .none) (.ref (ρ.a j)) ctv,?_,rfl,rfl,rfl,rfl,?_,fun p hp=>?_,rfl,rfl,rfl,rfl,rfl,?_,rfl⟩
  ·show (h'.push _).get? ((ρ.ext st.n h'.objs.size 0).a st.n)=_
   rw [Rho.ext_a]; exact get?_push_size _ rfl
  ·refine W0f fun p hp=>?_;show (p.1,ρ.a p.2)=(p.1,(ρ.ext st.n h'.objs.size 0).a p.2);rw [(g p.2 (hcs p hp)).1]
  ·exact W08 (hcs p hp)
  ·show Value.ref _=Value.ref _
   rw [ej])
 have:=hq _ _ g R2
 rw [Rho.ext_a] at this;rw [hqual];exact this
end
section
variable {c:Cfg}{T:Tab}{ρ:Rho}{st st' st1 st2 st3:St}{s:Shared}{A:Around}{E:Value→Shared→Prop}{ξ:Z3}{env:Env}{k:Nat}
theorem Z63 (hX:c.X)(W:Z5 c T)(hr:T.fn 601=some Jr)(hg1:T.glob "LimitFault"=some (.old 101))(hg2:T.glob "SheetFault"=some (.old 77))(hm1:exmOne c.K (.ref C) (.ref 101)=some b1)(hm2:b1=false→exmOne c.K (.ref C) (.ref 77)=some true)
  (O:Xo c P cc) (hcc:ξ.code = .ref cc) (hlev:ξ.lev=lev+2)
  (hn:Yb T c.ro ξ fn st=some (.old 601)) (hd:decide (fn=dbg)=false) (htab:st.get jt=some (.tab P ps q0 es)) (hc:Yc ξ sc.names=some cs)
  (hl:(ZS lp.line lp.col es=none∧st1=ZhD st jt P ps q0 es lp (ZP ξ))∨∃ j,ZS lp.line lp.col es=some j∧st.get j=some (.code (ZP ξ))∧st1=st)
  (hsc:(sc.names.all fun x=>x.2 != .cell)=true) (hk:sc.kind = .function) (hco:sc.isCoroutine=false) (hgen:sc.isGenerator=false)
  (h2:∀ L L' cv,ZQ ((c.withG L).withG L') T (.ex e ⟨sc,st1.n+2,cs,cv,ZU (ZP ξ),lev⟩) ((st1.gap 2).push (.frame [])) C st') :
  Z0 c T (.ex (.Call (.Name fn p1) [.Lambda Jd e sc lp] [] p2) ξ) st (.v (.str (if b1 then "limit" else "sheet"))) st':=by
 intro A ρ env s E r e0 R;have he:eval (.Call (.Name fn p1) [.Lambda Jd e sc lp] [] p2) env=(do callWith p2 (← eval (.Name fn p1) env) [] (backTo p2 (starEach [.Lambda Jd e sc lp] env)) []):=rfl;rw [he];refine W0j (wpAny_Name (Z4q W.X hn R e0 fun u hu=>?_) (by rw [Q1]; exact hd))
 cases hu
 refine Z0I rfl (fun h X=>keeps_K (W.X.fn _ _ hr).keep h X) (spliced_more ?_ (Z0D rfl));rw [hlev] at r;have done:∀ ρ' s',Ag ρ ρ' st.n→st.n≤st1.n→(∃ cv,Rel c ρ' (st1.push (.lam e sc cs cv (ZP ξ))) s'∧∃ jc,jc<st1.n∧st1.get jc=some (.code (ZP ξ))∧cv = .ref (ρ'.a jc))→(∀ i o,st1.get i=some o→i<st1.n) →
   c.K.In s'.heap∧wpAny (model c.prog c.w) A (call (.ref 601) ([]++[.ref (ρ'.a st1.n)])) (fun v s'=>Z7 c ρ st.n st' s' fun ρ'=>(MV.str (if b1 then "limit" else "sheet")).Is ρ' st'.n v) E s':=by
  intro ρ' s' g n zq hst;obtain ⟨cv,R',hcr⟩:=zq;refine ⟨R'.kin W.C,?_⟩;exact wpAny_mono (ZdT hX W hr hg1 hg2 hm1 hm2 r R' hcr hst hsc hk hco hgen fun L L'=>h2 L L' cv) (fun v s2 z=>z.trans g n) fun u0 u0 z=>z
 rcases hl with ⟨hmiss,rfl⟩ | ⟨j,hhit,hjc,rfl⟩
 ·refine Zak W O hcc htab hmiss hc R e0 fun ρ' s' g R'=>spliced_none ?_;have hj:=(R.at_ _ _ htab).1;refine done ρ' s' g (W03 _) ⟨_,R',st.n,W02 _,?_,rfl⟩ fun i o h=>?_
  ·show ((st.push _).put jt _).get st.n=_
   rw [St.get_put,if_neg (Nat.ne_of_gt hj),St.get_push,if_pos rfl]
  ·show i<st.n+1
   have h:((st.push (.code (ZP ξ))).put jt (.tab P ps q0 ((lp.line,lp.col,st.n)::es))).get i=some o:=h;rw [St.get_put] at h;by_cases h1:i=jt
   ·omega
   ·rw [if_neg h1,St.get_push] at h;by_cases h3:i=st.n
    ·omega
    ·rw [if_neg h3] at h;exact W08 (R.at_ i o h).1
 ·refine Zcd W O hcc htab hhit hc R e0 fun ρ' s' g R'=>spliced_none ?_;exact done ρ' s' g (W04 _) ⟨_,R',j,(R.at_ _ _ hjc).1,hjc,rfl⟩ fun i o h=>(R.at_ i o h).1
end
def Has (st:St)(i:Nat)(o:MObj):Prop:=i<st.n∧st.get i=some o
def Le (M:List Nat)(a b:St):Prop:=a.n≤b.n∧∀ i,i<a.n→i∉M→b.get i=a.get i
section
variable {a b d st:St}{M M':List Nat}{i j:Nat}{o o':MObj}
theorem Has.le (h:Has a i o)(k:Le M a b)(hi:i∉M):Has b i o:=⟨W00 h.1 k.1,by rw [k.2 i h.1 hi]; exact h.2⟩
theorem Has.le0 (h:Has a i o)(k:Le [] a b):Has b i o:=h.le k not_mem_nil
theorem Has.le1 (h:Has a i o)(k:Le [m] a b)(hi:i≠m):Has b i o:=h.le k (by simpa using hi)
theorem Has.ne (h:Has st i o)(h':Has st j o')(ho:o≠o'):i≠j:=fun q=>ho (by subst q;exact W0g (h.2.symm.trans h'.2))
theorem Le.refl:Le M a a:=⟨W04 _,fun u0 u0 u0=>rfl⟩
theorem Le.trans (h:Le M a b)(k:Le M b d):Le M a d:=⟨W01 h.1 k.1,fun i hi hm=>(k.2 i (W00 hi h.1) hm).trans (h.2 i hi hm)⟩
theorem Le.more (h:Le M a b)(hm:∀ m∈M,m∈M'∨a.n≤m):Le M' a b:=⟨h.1,fun i hi hn=>h.2 i hi fun q=>(hm i q).elim hn fun z=>absurd hi (W0m z)⟩
theorem Le.sub (h:Le M a b)(hm:∀ m∈M,m∈M'):Le M' a b:=h.more fun m q=>.inl (hm m q)
theorem Le.of0 (h:Le [] a b):Le M a b:=h.sub (by simp)
theorem Le.then (h:Le M a b)(k:Le M' b d)(hm:∀ m∈M',m∈M∨a.n≤m):Le M a d :=
 ⟨W01 h.1 k.1,fun i hi hn=>(k.2 i (W00 hi h.1) fun q=>(hm i q).elim hn fun z=>absurd hi (W0m z)).trans (h.2 i hi hn)⟩
theorem Le.push:Le M st (st.push o):=⟨W03 _,fun i hi u0=>by rw [St.get_push,if_neg (ne_of_lt hi)]⟩
theorem Le.put (hi:i∈M):Le M st (st.put i o):=⟨W04 _,fun j u0 hj=>by rw [St.get_put,if_neg (show ¬ j=i from fun q=>hj (q▸hi))]⟩
theorem Le.del (hi:i∈M):Le M st (st.del i):=⟨W04 _,fun j u0 hj=>by rw [St.get_del,if_neg (show ¬ j=i from fun q=>hj (q▸hi))]⟩
theorem Has.new:Has (st.push o) st.n o:=⟨W02 _,by rw [St.get_push,if_pos rfl]⟩
theorem Has.push (h:Has st i o):Has (st.push o') i o:=h.le0 Le.push
theorem Has.put_same (h:i<st.n):Has (st.put i o) i o:=⟨h,by rw [St.get_put,if_pos rfl]⟩
theorem Has.put (h:Has st i o)(k:i≠j):Has (st.put j o') i o:=⟨h.1,by rw [St.get_put,if_neg k]; exact h.2⟩
theorem Has.del (h:Has st i o)(k:i≠j):Has (st.del j) i o:=⟨h.1,by rw [St.get_del,if_neg k]; exact h.2⟩
theorem Has.rd (h:Has st i o)(ro:Tr MObj):rd ro st i=some o:=by unfold Mine.rd;rw [h.2]
end
noncomputable def Yx (st:St)(o:Option MObj):St:=⟨st.n+1,st.t.set (st.n+1) st.n o⟩
noncomputable def Zmi (st:St)(i:Nat)(o:Option MObj):St:=⟨st.n,st.t.set (i+1) i o⟩
theorem Qh (st:St)(o:Option MObj)(j:Nat):(Yx st o).get j=if j=st.n then o else st.get j:=Tr.get_set _ _ _ _ _ (Z3a _)
theorem Z5Z (st:St)(i:Nat)(o:Option MObj)(j:Nat):(Zmi st i o).get j=if j=i then o else st.get j:=Tr.get_set _ _ _ _ _ (Z3a i)
noncomputable def Qi (g:Nat→Nat):St→List (Option MObj)→St
 | st,[]=>st
 | st,o::r=>Qi g (Yx st (o.map (ZA g))) r
noncomputable def Zm5:St:=⟨0,.nil⟩
noncomputable def mkZ:St→List (Option MObj)→St
 | st,[]=>st
 | st,o::r=>mkZ (Yx st o) r
def mkS (os:List (Option MObj)):St:=mkZ Zm5 os
theorem Zel:∀ (os:List (Option MObj))(st:St),(mkZ st os).n=st.n+os.length
 | [],st=>rfl
 | o::r,st=>by show (mkZ (Yx st o) r).n=_;rw [Zel r]; show st.n+1+r.length=st.n+(r.length+1);omega
theorem Z9k:∀ (os:List (Option MObj))(st:St)(j:Nat),(mkZ st os).get j=if j<st.n then st.get j else if j<st.n+os.length then (os[j - st.n]?).join else st.get j
 | [],st,j=>by
  show st.get j=_
  by_cases h:j<st.n
  ·rw [if_pos h]
  ·rw [if_neg h,if_neg (by simpa using h)]
 | o::r,st,j=>by
  show (mkZ (Yx st o) r).get j=_
  rw [Z9k r,Qh];show (if j<st.n+1 then _ else if j<st.n+1+r.length then _ else _)=_;by_cases h:j<st.n
  ·rw [if_pos (lt_succ_of_lt h),if_neg (ne_of_lt h),if_pos h]
  ·rw [if_neg h];by_cases h1:j=st.n
   ·subst h1;rw [if_pos (lt_succ_self _),if_pos rfl,if_pos (Nat.lt_add_of_pos_right (succ_pos _)),Nat.sub_self]
    all_goals rfl
   ·rw [if_neg fun q=>(Nat.lt_succ_iff_lt_or_eq.mp q).elim h h1,if_neg h1];have e:j - st.n=(j - (st.n+1))+1:=(Nat.succ_pred_eq_of_pos (Nat.sub_pos_of_lt (Nat.lt_of_le_of_ne (not_lt.mp h) (Ne.symm h1)))).symm;rw [e,List.getElem?_cons_succ];show (if j<st.n+1+r.length then _ else _)=if j<st.n+(r.length+1) then _ else _
    rw [show st.n+1+r.length=st.n+(r.length+1) from Nat.succ_add_eq_add_succ ..]
    all_goals rfl
theorem Xp (os:List (Option MObj)):(mkS os).n=os.length:=by unfold mkS;rw [Zel]; exact zero_add _
theorem Z4o (os:List (Option MObj))(j:Nat):(mkS os).get j=(os[j]?).join:=by
 unfold mkS;rw [Z9k,if_neg (show ¬ j<Zm5.n from not_lt_zero _)];show (if j<0+os.length then (os[j - 0]?).join else none)=_;rw [zero_add,Nat.sub_zero];by_cases h:j<os.length
 ·rw [if_pos h]
 ·rw [if_neg h,List.getElem?_eq_none (Nat.le_of_not_lt h)]; rfl
theorem Z31 (g:Nat→Nat):∀ (os:List (Option MObj))(st:St),(Qi g st os).n=st.n+os.length
 | [],st=>rfl
 | o::r,st=>by show (Qi g (Yx st _) r).n=_;rw [Z31 g r]; show st.n+1+r.length=st.n+(r.length+1);omega
theorem Xq (g:Nat→Nat):∀ (os:List (Option MObj))(st:St)(j:Nat),(Qi g st os).get j=if j<st.n then st.get j else if j<st.n+os.length then ((os[j - st.n]?).join).map (ZA g) else st.get j
 | [],st,j=>by
  show st.get j=_
  by_cases h:j<st.n
  ·rw [if_pos h]
  ·rw [if_neg h,if_neg (by simpa using h)]
 | o::r,st,j=>by
  show (Qi g (Yx st _) r).get j=_
  rw [Xq g r,Qh];show (if j<st.n+1 then _ else if j<st.n+1+r.length then _ else _)=_;by_cases h:j<st.n
  ·rw [if_pos (lt_succ_of_lt h),if_neg (ne_of_lt h),if_pos h]
  ·rw [if_neg h];by_cases h1:j=st.n
   ·subst h1;rw [if_pos (lt_succ_self _),if_pos rfl,if_pos (Nat.lt_add_of_pos_right (succ_pos _)),Nat.sub_self]
    all_goals rfl
   ·rw [if_neg fun q=>(Nat.lt_succ_iff_lt_or_eq.mp q).elim h h1,if_neg h1];have e:j - st.n=(j - (st.n+1))+1:=(Nat.succ_pred_eq_of_pos (Nat.sub_pos_of_lt (Nat.lt_of_le_of_ne (not_lt.mp h) (Ne.symm h1)))).symm;rw [e,List.getElem?_cons_succ];show (if j<st.n+1+r.length then _ else _)=if j<st.n+(r.length+1) then _ else _
    rw [show st.n+1+r.length=st.n+(r.length+1) from Nat.succ_add_eq_add_succ ..]
    all_goals rfl
noncomputable def Zj:List Nat→List (Option MObj)→List Nat
 | a::as,some _::os=>a::Zj as os
 | _::as,none::os=>Zj as os
 | _,_=>[]
noncomputable def Xr (g:Nat→Nat):St→List Nat→List (Option MObj)→List (Option MObj)→St
 | st,a::as,some _::os,r::rs=>Xr g (Zmi st a (r.map (ZA g))) as os rs
 | st,_::as,none::os,_::rs=>Xr g st as os rs
 | st,_,_,_=>st
theorem Q5 (g:Nat→Nat):∀ (fl:List Nat)(os rs:List (Option MObj))(st:St),(Xr g st fl os rs).n=st.n
 | [],_,_,_=>rfl
 | _::_,[],_,_=>rfl
 | _::_,some _::_,[],_=>rfl
 | _::_,none::_,[],_=>rfl
 | _::as,some _::os,_::rs,_=>(Q5 g as os rs _).trans rfl
 | _::as,none::os,_::rs,st=>Q5 g as os rs st
theorem Xs (g:Nat→Nat):∀ (fl:List Nat)(os rs:List (Option MObj))(st:St)(j:Nat),j∉Zj fl os→(Xr g st fl os rs).get j=st.get j
 | [],_,_,_,_,_=>rfl
 | _::_,[],_,_,_,_=>rfl
 | _::_,some _::_,[],_,_,_=>rfl
 | _::_,none::_,[],_,_,_=>rfl
 | a::as,some _::os,r::rs,st,j,h=>(Xs g as os rs _ j fun q=>h (W0e _ q)).trans (by rw [Z5Z]; exact if_neg fun e=>h (mem_cons.mpr (.inl e)))
 | _::as,none::os,_::rs,st,j,h=>Xs g as os rs st j h
theorem Z3y (g:Nat→Nat):∀ (fl:List Nat)(os rs:List (Option MObj))(st:St)(i:Nat)(o:MObj)(r:Option MObj),(Zj fl os).Nodup→i<fl.length→os[i]?=some (some o)→rs[i]?=some r→(Xr g st fl os rs).get (fl.getD i 0)=r.map (ZA g)
 | [],_,_,_,_,_,_,_,h,_,_=>absurd h (not_lt_zero _)
 | _::_,[],_,_,_,o,_,_,_,h,_=>absurd (show none=some (some o) from h) nofun
 | _::_,_::_,[],_,_,_,r,_,_,_,h=>absurd (show none=some r from h) nofun
 | a::as,some _::os,r'::rs,st,0,o,r,hn,_,_,hr=>by
  cases (W0g (show some r'=some r from hr))
  refine (Xs g as os rs _ a (nodup_cons.mp (show (a::Zj as os).Nodup from hn)).1).trans ?_;rw [Z5Z,if_pos rfl]
 | a::as,some _::os,r'::rs,_,i+1,o,r,hn,hi,ho,hr =>
  Z3y g as os rs _ i o r (nodup_cons.mp (show (a::Zj as os).Nodup from hn)).2 (W0c hi) ho hr
 | _::_,none::_,_::_,_,0,o,_,_,_,ho,_=>absurd (W0g (show some none=some (some o) from ho)) nofun
 | _::as,none::os,_::rs,_,i+1,o,r,hn,hi,ho,hr=>Z3y g as os rs _ i o r hn (W0c hi) ho hr
theorem Z1J:∀ {fl:List Nat}{os:List (Option MObj)}{i:Nat}{o:MObj},i<fl.length→os[i]?=some (some o)→fl.getD i 0∈Zj fl os
 | [],_,i,o,h,_=>absurd h (not_lt_zero _)
 | _::_,[],i,o,_,h=>by simp at h
 | a::as,some _::os,i,o,hi,ho=>by
  show _∈a::Zj as os
  induction i using casesAuxOn with
  | zero=>exact W0d
  | succ i=>rw [getD_cons_succ]; exact W0e _ (Z1J (W0c hi) (by simpa using ho))
 | a::as,none::os,i,o,hi,ho=>by
  show _∈Zj as os
  induction i using casesAuxOn with
  | zero=>simp at ho
  | succ i=>rw [getD_cons_succ]; exact Z1J (W0c hi) (by simpa using ho)
theorem Z1o:∀ {fl:List Nat}{os:List (Option MObj)}{j:Nat},j∈Zj fl os→∃ i o,i<fl.length∧os[i]?=some (some o)∧fl.getD i 0=j
 | [],_,j,h=>absurd (show j∈[] from h) not_mem_nil
 | _::_,[],j,h=>absurd (show j∈[] from h) not_mem_nil
 | a::as,some o::os,j,h=>by
  have h:j∈a::Zj as os:=h;rcases W0i h with rfl | h
  ·exact ⟨0,o,succ_pos _,rfl,rfl⟩
  ·obtain ⟨i,o,h1,h2,h3⟩:=Z1o h;exact ⟨i+1,o,Nat.succ_lt_succ h1,by simpa using h2,by rw [getD_cons_succ]; exact h3⟩
 | a::as,none::os,j,h=>by
  have h:j∈Zj as os:=h;obtain ⟨i,o,h1,h2,h3⟩:=Z1o h;exact ⟨i+1,o,Nat.succ_lt_succ h1,by simpa using h2,by rw [getD_cons_succ]; exact h3⟩
theorem Z4p:∀ {fl:List Nat}{os:List (Option MObj)}{i j:Nat}{o o':MObj},(Zj fl os).Nodup→i<fl.length→j<fl.length→os[i]?=some (some o)→os[j]?=some (some o')→fl.getD i 0=fl.getD j 0→i=j
 | [],_,i,j,o,o',_,h,_,_,_,_=>absurd h (not_lt_zero _)
 | _::_,[],i,j,o,o',_,_,_,h,_,_=>by simp at h
 | a::as,some _::os,i,j,o,o',hn,hi,hj,ho,ho',e=>by
  have hn:(a::Zj as os).Nodup:=hn;rw [nodup_cons] at hn
  induction i using casesAuxOn with
  | zero=>induction j using casesAuxOn with
   | zero=>rfl
   | succ j =>
    rw [getD_cons_succ] at e;have e:a=as.getD j 0:=e;exact absurd (e▸Z1J (W0c hj) (by simpa using ho')) hn.1
  | succ i=>induction j using casesAuxOn with
   | zero =>
    rw [getD_cons_succ] at e;have e:as.getD i 0=a:=e;exact absurd (e▸Z1J (W0c hi) (by simpa using ho)) hn.1
   | succ j =>
    rw [getD_cons_succ,getD_cons_succ] at e;rw [Z4p hn.2 (Nat.lt_of_succ_lt_succ hi) (Nat.lt_of_succ_lt_succ hj) (by simpa using ho) (by simpa using ho') e]
 | a::as,none::os,i,j,o,o',hn,hi,hj,ho,ho',e=>by
  have hn:(Zj as os).Nodup:=hn
  induction i using casesAuxOn with
  | zero=>simp at ho
  | succ i=>induction j using casesAuxOn with
   | zero=>simp at ho'
   | succ j =>
    rw [getD_cons_succ,getD_cons_succ] at e;rw [Z4p hn (Nat.lt_of_succ_lt_succ hi) (Nat.lt_of_succ_lt_succ hj) (by simpa using ho) (by simpa using ho') e]
noncomputable def ZG (st:St)(f:Nat→Nat):List Nat→List (Option MObj)→Prop
 | [],[]=>True
 | a::as,some o::os=>Has st a (ZA f o)∧ZG st f as os
 | a::as,none::os=>a<st.n∧ZG st f as os
 | _,_=>False
theorem ZG.len {st:St}:∀ {fl:List Nat}{os:List (Option MObj)},ZG st f fl os→fl.length=os.length
 | [],[],_=>rfl
 | _::as,some _::os,h=>by simp [h.2.len]
 | _::as,none::os,h=>by simp [h.2.len]
 | [],_::_,h=>h.elim
 | _::_,[],h=>h.elim
theorem ZG.lt {st:St}:∀ {fl:List Nat}{os:List (Option MObj)},ZG st f fl os→∀ i,i<fl.length→fl.getD i 0<st.n
 | [],[],_,i,h=>absurd h (not_lt_zero _)
 | _::as,some _::os,h,0,_=>h.1.1
 | _::as,none::os,h,0,_=>h.1
 | _::as,some _::os,h,i+1,hi=>h.2.lt i (W0c hi)
 | _::as,none::os,h,i+1,hi=>h.2.lt i (W0c hi)
 | [],_::_,h,_,_=>h.elim
 | _::_,[],h,_,_=>h.elim
theorem ZG.at {st:St}:∀ {fl:List Nat}{os:List (Option MObj)},ZG st f fl os→∀ {i:Nat}{o:MObj},os[i]?=some (some o)→Has st (fl.getD i 0) (ZA f o)
 | [],[],_,i,o,h=>by simp at h
 | _::as,some _::os,h,0,o,e=>by simp at e;subst e;exact h.1
 | _::as,none::os,h,0,o,e=>by simp at e
 | _::as,some _::os,h,i+1,o,e=>h.2.at (by simpa using e)
 | _::as,none::os,h,i+1,o,e=>h.2.at (by simpa using e)
 | [],_::_,h,_,_,_=>h.elim
 | _::_,[],h,_,_,_=>h.elim
noncomputable def idx (fl:List Nat):Nat→Nat:=fun i=>fl.getD i 0
def fin (r:Res)(n0:Nat)(new:List Nat):Option (Out×Nat×List (Option MObj)×List (Option MObj)):=match r with
 | some (o,st)=>some (o,st.n,(List.range n0).map st.get,new.map st.get)
 | none=>none
theorem Z3U (h:fin r n0 new=some (o,n',olds,news)):∃ st',r=some (o,st')∧st'.n=n'∧olds=(List.range n0).map st'.get∧news=new.map st'.get:=by
 (first | delta fin at h | unfold fin at h)
 split at h
 ·cases h;exact ⟨_,rfl,rfl,rfl,rfl⟩
 ·cases h
def Y1 (p:Nat→Bool)(os:List (Option MObj)):Bool:=os.all fun o=>match o with | some o=>inO p o | none=>true
noncomputable def Zjn:List (Option MObj)→List (Option MObj)→Bool
 | some o::os,some r::rs=>(fy o||(!fy r&&(!ZE o||ZE r)))&&Zjn os rs
 | some o::os,none::rs=>fy o&&Zjn os rs
 | none::os,r::rs=>r.isNone&&Zjn os rs
 | [],[]=>true
 | _,_=>false
theorem Z2s:∀ {os rs:List (Option MObj)},Zjn os rs=true→∀ i:Nat,(∀ o,os[i]?=some (some o)→fy o=false→∃ o',rs[i]?=some (some o')∧fy o'=false∧(ZE o=true→ZE o'=true))∧(os[i]?=some none→rs[i]?=some none)
 | [],[],_,_=>⟨fun o h=>absurd (show none=some (some o) from h) nofun,fun h=>absurd (show none=some none from h) nofun⟩
 | some o::os,some r::rs,h,0=>by
  have h1:=(W0h h).1;refine ⟨fun o' e hf=>?_,fun e=>absurd (W0g (show some (some o)=some none from e)) nofun⟩;have e:=W0g (W0g (show some (some o)=some (some o') from e));subst e;rw [hf] at h1;have h1:=W0h h1;exact ⟨r,rfl,(not_eq_true' _).mp h1.1,fun z=>(Bool.or_eq_true_iff.mp h1.2).resolve_left fun q=>by rw [z] at q;cases q⟩
 | some o::os,none::rs,h,0=>by
  have h1:=(W0h h).1;refine ⟨fun o' e hf=>?_,fun e=>absurd (W0g (show some (some o)=some none from e)) nofun⟩;have e:=W0g (W0g (show some (some o)=some (some o') from e));subst e;rw [hf] at h1
  cases h1
 | none::os,r::rs,h,0=>⟨fun o e=>absurd (W0g (show some none=some (some o) from e)) nofun,fun u0=>congrArg some (isNone_iff_eq_none.mp (W0h h).1)⟩
 | some _::_,some _::_,h,i+1=>Z2s (W0h h).2 i
 | some _::_,none::_,h,i+1=>Z2s (W0h h).2 i
 | none::_,_::_,h,i+1=>Z2s (W0h h).2 i
 | [],_::_,h,_=>by cases h
 | some _::_,[],h,_=>by cases h
 | none::_,[],h,_=>by cases h
def Ys (st:St)(g:Nat→Nat)(fl:List Nat)(os olds news:List (Option MObj)):St:=Qi g (Xr g st fl os olds) news
def Yi (n0 n':Nat)(os olds news:List (Option MObj))(new:List Nat):Bool :=
 Y1 (below n0) os&&Y1 (pOf n0 new) olds&&Y1 (pOf n0 new) news&&Zjn os olds&&new.all (fun i=>ble n0 i&&blt i n')&&beq new.length news.length&&beq n0 os.length&&beq olds.length n0&&decide new.Nodup
structure ZfI (c:Cfg)(st st0 st0' st':St)(f:Nat→Nat)(new:List Nat):Prop where
 M:Emb c st st0 .nil f
 hn:st'.n=st.n+new.length
 hnew:∀ i∈new,st0.n≤i∧i<st0'.n
 cl:Zjl st st0 st0' st' new f
 hfr:∀ i o,st0.get i=some o→fy o=false→∃ o',st0'.get i=some o'∧fy o'=false∧(ZE o=true→ZE o'=true)
theorem Z4Z {l:List (Option MObj)}{i:Nat}(h:(l[i]?).join=some o):l[i]?=some (some o):=by
 cases q:l[i]? with
 | none=>rw [q] at h;cases h
 | some r=>rw [q] at h;cases r with
  | none=>cases h
  | some r=>cases h;rfl
theorem Z1S {os:List (Option MObj)}(h:Y1 p os=true){i:Nat}(e:os[i]?=some (some o)):inO p o=true:=by
 (first | delta Y1 at h | unfold Y1 at h)
 rw [all_eq_true] at h;exact h _ (List.mem_of_getElem? e)
theorem Z2c {st st0':St}{os olds news:List (Option MObj)}(hf:ZG st (idx fl) fl os)(hd:(Zj fl os).Nodup)(hc:Yi fl.length n' os olds news new=true)
  (h1:st0'.n=n') (h2:olds=(List.range fl.length).map st0'.get) (h3:news=new.map st0'.get) (wf:∀ j o,st.get j=some o→j<st.n) :
  ZfI c st (mkS os) st0' (Ys st (gOf fl.length st.n new (idx fl)) fl os olds news) (idx fl) new:=by
 (first | delta Yi at hc | unfold Yi at hc)
 simp only [and_eq_true,decide_eq_true_eq,all_eq_true] at hc
 (refine xA hc ?_;(try clear hc);intro o0 c9;obtain ⟨⟨⟨⟨⟨⟨⟨c1,c2⟩,c3⟩,c4⟩,c5⟩,c6⟩,c7⟩,c8⟩:=o0)
 have hl:=hf.len;have hlen:=W09 c6;have n0:(mkS os).n=fl.length:=by rw [Xp,hl]
 have own:∀ i o,(mkS os).get i=some o→i<fl.length∧os[i]?=some (some o):=fun i o h=>by
  rw [Z4o] at h;have h:=Z4Z h;exact ⟨by rw [hl]; exact (List.getElem?_eq_some_iff.mp h).1,h⟩
 have old:∀ i,i<fl.length→olds[i]?=some (st0'.get i):=fun i h=>by
  rw [h2,getElem?_map,List.getElem?_range h]; rfl
 refine ⟨⟨fun i h=>?_,fun i o e=>?_,fun i o e=>?_,fun i j oi oj ei ej q=>?_⟩,?_,fun i hi=>?_,fun j o e=>?_,fun i o e hfy=>?_⟩
 ·rw [n0] at h;exact hf.lt i h
 ·obtain ⟨h,e⟩:=own i o e;rw [n0];exact ⟨h,Z1S c1 e,(hf.at e).2⟩
 ·exact nomatch e
 ·obtain ⟨h,e⟩:=own i oi ei
  (refine xA (own j oj ej) ?_;intro h' e')
  exact Z4p hd h h' e e' q
 ·unfold Ys;rw [Z31,Q5,hlen]
 ·have:=c5 i hi
  rw [n0,h1];exact ⟨W06 this.1,W06 this.2⟩
 ·unfold Ys at e;rw [Xq,Q5] at e;rw [n0];by_cases hj:j<st.n
  ·rw [if_pos hj] at e;by_cases hp:j∈Zj fl os
   ·(refine xEEAA (Z1o hp) ?_;intro i oi k1 k2 o1;subst o1)
    rw [Z3y _ fl os olds st i oi _ hd k1 k2 (old i k1)] at e
    (refine xEA (map_eq_some_iff.mp e) ?_;intro o' k3 o2;subst o2)
    refine .inr ⟨i,o',?_,k3,?_,Z1S c2 (i:=i) (by rw [old i k1,k3]),rfl⟩
    ·unfold pOf;rw [Jq.mpr k1]; rfl
    ·unfold gOf;rw [show blt i fl.length=true from Jq.mpr k1]; rfl
   ·rw [Xs _ _ _ _ _ _ hp] at e;refine .inl ⟨hj,e,fun i oi ei q=>hp ?_⟩;obtain ⟨k1,k2⟩:=own i oi ei;rw [← q];exact Z1J k1 k2
  ·rw [if_neg hj] at e;by_cases hj2:j<st.n+news.length
   ·rw [if_pos hj2] at e
    (refine xEA (map_eq_some_iff.mp e) ?_;intro o' k3 o3;subst o3)
    have k3:=Z4Z k3;rw [h3,getElem?_map] at k3;obtain ⟨i,k4,k5⟩:=map_eq_some_iff.mp k3;have hm:i∈new:=List.mem_of_getElem? k4;have hge:=c5 i hm;have hlt:j - st.n<new.length:=(List.getElem?_eq_some_iff.mp k4).1;have hi:new.idxOf i=j - st.n:=by
     have e2:=List.getElem_of_getElem? k4;obtain ⟨w,e2⟩:=e2;rw [← e2];exact c9.idxOf_getElem _ w
    refine .inr ⟨i,o',?_,k5,?_,Z1S c3 (i:=j - st.n) (by rw [h3,getElem?_map,k4,Option.map_some,k5]),rfl⟩
    ·unfold pOf;rw [List.contains_iff_mem.mpr hm,Bool.or_true]
    ·unfold gOf;have hb:blt i fl.length=false:=by
      cases q:blt i fl.length with
      | false=>rfl
      | true=>have k:=Jq.mp q;have:=W06 hge.1;omega
     rw [hb];show j=st.n+new.idxOf i;rw [hi]; omega
   ·rw [if_neg hj2] at e;by_cases hp:j∈Zj fl os
    ·(refine xEEAA (Z1o hp) ?_;intro i oi k1 k2 o4;subst o4)
     exact absurd (hf.lt i k1) hj
    ·rw [Xs _ _ _ _ _ _ hp] at e;exact absurd (wf j o e) hj
 ·obtain ⟨h,e⟩:=own i o e
  (refine xEA ((Z2s c4 i).1 o e hfy) ?_;intro o' k1 k2)
  rw [old i h] at k1;exact ⟨o',W0g k1,k2⟩
structure Ran (st st':St)(fl:List Nat)(os olds news:List (Option MObj))(new:List Nat):Prop where
 n:st'.n=st.n+new.length
 le:Le (Zj fl os) st st'
 old:∀ i o' o,os[i]?=some (some o')→olds[i]?=some (some o)→Has st' (fl.getD i 0) (ZA (gOf fl.length st.n new (idx fl)) o)
 new:∀ k o,news[k]?=some (some o)→Has st' (st.n+k) (ZA (gOf fl.length st.n new (idx fl)) o)
structure ZM (T:Tab)(N:Nat)(cmd:Cmd)(os:List (Option MObj))(n0:Nat)(new:List Nat)(o:Out)(n':Nat)(olds news:List (Option MObj)):Prop where
 run:fin (ev T .nil N cmd (mkS os)) n0 new=some (o,n',olds,news)
 chk:(Yi n0 n' os olds news new&&Qf (pOf n0 new) o)=true
section
variable {c:Cfg}{T:Tab}{st st' st1 st2:St}{ξ:Z3}
theorem Z5U {os olds news:List (Option MObj)}(hf:ZG st (idx fl) fl os)(hd:(Zj fl os).Nodup)(hc:Yi fl.length n' os olds news new=true) :
  Ran st (Ys st (gOf fl.length st.n new (idx fl)) fl os olds news) fl os olds news new:=by
 (first | delta Yi at hc | unfold Yi at hc)
 simp only [and_eq_true,decide_eq_true_eq] at hc
 (refine xA hc ?_;(try clear hc);intro o0 c9;obtain ⟨⟨⟨⟨⟨⟨⟨c1,c2⟩,c3⟩,c4⟩,c5⟩,c6⟩,c7⟩,c8⟩:=o0)
 have hlen:=W09 c6;have hn:(Ys st (gOf fl.length st.n new (idx fl)) fl os olds news).n=st.n+new.length:=by unfold Ys;rw [Z31,Q5,hlen]
 refine ⟨hn,⟨by rw [hn]; omega,fun i hi hm=>?_⟩,fun i o' o h1 h2=>?_,fun k o h=>?_⟩
 ·unfold Ys;rw [Xq,Q5,if_pos hi,Xs _ _ _ _ _ _ hm]
 ·have hi:i<fl.length:=by rw [hf.len]; exact (List.getElem?_eq_some_iff.mp h1).1
  have hlt:=hf.lt i hi;refine ⟨by rw [hn]; omega,?_⟩;unfold Ys;rw [Xq,Q5,if_pos hlt,Z3y _ fl os olds st i o' _ hd hi h1 h2];rfl
 ·have hk:k<news.length:=(List.getElem?_eq_some_iff.mp h).1;refine ⟨by rw [hn]; omega,?_⟩;unfold Ys;rw [Xq,Q5,if_neg (by omega),if_pos (by omega),Nat.add_sub_cancel_left,h];rfl
theorem Zg.low (r:Zg c A lev')(h:lev≤lev'):Zg c A lev :=
 ⟨r.hh,by have:=r.depth;omega,by have:=r.units;omega,r.fr⟩
theorem Z3i (h:Z0 c T (.call f args lev) st (.v x) st')(k:lev≤lev'):Z0 c T (.call f args lev') st (.v x) st' :=
 fun A ρ s E fv vs rm R hf ha=>h A ρ s E fv vs (rm.low k) R hf ha
noncomputable abbrev Orc:=MV→List MV→Nat→St→Option (Out×St)
theorem Z5.orc (W:Z5 c (Z1 nt o1)):Z5 c (Z1 nt o2) :=
 ⟨⟨W.X.glob,fun a r h=>⟨(W.X.fn a r h).keep,(W.X.fn a r h).fd⟩,fun a xs h=>W.X.base a xs h⟩,fun C r h=>by
  have k:=W.Y C r h;exact ⟨k.keep,k.ga,k.gh,k.sa,k.over,k.dict,k.attrs,k.meths,k.makes,k.init,k.data⟩,W.C⟩
theorem Y4.none:Y4 (Z1 nt Y7):=fun u0 u0 u0 u0 u0 u0 u0 u0 u0 h=>nomatch h
def ZiE (f g:Orc):Orc:=fun a b l st=>match f a b l st with | some r=>some r | none=>g a b l st
noncomputable def ifT:Stmt→Expr
 | .If t _ _ _=>t
 | _=>.Name "" ⟨0,0,0,0⟩
section
variable {α β:Type}{x:α}{G:Prop}
noncomputable def Xu (k0 l0:Nat)(f:MV)(lev:Nat)(r:Option α):Option α:=match f with
 | .old k=>(match beq k k0&&ble l0 lev with | true=>r | false=>none)
 | _=>none
theorem Z25 (h:Xu k0 l0 f lev r=some x)(g:f = .old k0→l0≤lev→r=some x→G):G:=by
 induction f using MV.casesOn with
 | old k=>exact bT h fun q e=>g (congrArg MV.old (W09 (W0h q).1)) (W06 (W0h q).2) e
 | _=>exact no h
noncomputable def Zl1 (f:MV)(r:Option α):Option α:=match f with
 | .bi b=>(match b with | .dict=>r | _=>none)
 | _=>none
theorem ZbC (h:Zl1 f r=some x)(g:f = .bi .dict→r=some x→G):G:=by
 cases f with
 | bi b=>induction b using Bi.casesOn with
  | dict=>exact g rfl h
  | _=>exact no h
 | _=>exact no h
noncomputable def g1 (l:List MV)(F:MV→Option α):Option α:=match l with | [a]=>F a | _=>none
theorem Zej (h:g1 l F=some x)(g:∀ a,l=[a]→F a=some x→G):G:=by
 cases l with
 | nil=>exact no h
 | cons a l=>cases l with
  | nil=>exact g a rfl h
  | cons b l=>exact no h
def g2 (l:List MV)(F:MV→MV→Option α):Option α:=match l with | a::l=>g1 l (F a) | _=>none
theorem ZcT (h:g2 l F=some x)(g:∀ a b,l=[a,b]→F a b=some x→G):G:=by
 cases l with
 | nil=>exact no h
 | cons a l=>exact Zej h fun b e=>g a b (congrArg (a::·) e)
noncomputable def gR (a:MV)(F:Nat→Option α):Option α:=match a with | .ref t=>F t | _=>none
theorem Ze3 (h:gR a F=some x)(g:∀ t,a = .ref t→F t=some x→G):G:=by
 cases a with
 | ref t=>exact g t rfl h
 | _=>exact no h
noncomputable def Zlm (o:Option MObj)(F:List MV→Option α):Option α:=match o with | some (.tup xs)=>F xs | _=>none
theorem Zb6 (h:Zlm o F=some x)(g:∀ xs,o=some (.tup xs)→F xs=some x→G):G:=Z8i h g
noncomputable def Zly (o:Option MObj)(F:List MV→Option α):Option α:=match o with | some (.list xs)=>F xs | _=>none
theorem ZaJ (h:Zly o F=some x)(g:∀ xs,o=some (.list xs)→F xs=some x→G):G:=QD h g
noncomputable def Zls (o:Option MObj)(F:Int→Int→List (Int×Int)→Option α):Option α:=match o with | some (.src a b l)=>F a b l | _=>none
theorem Z8V (h:Zls o F=some x)(g:∀ a b l,o=some (.src a b l)→F a b l=some x→G):G:=by
 cases o with
 | none=>exact no h
 | some o=>induction o using MObj.casesOn with
  | src a b l=>exact g a b l rfl h
  | _=>exact no h
noncomputable def gHd (l:List (Int×Int))(F:Int→Int→List (Int×Int)→Option α):Option α:=match l with | p::l=>F p.1 p.2 l | []=>none
theorem Z7L (h:gHd l F=some x)(g:∀ t d r,l=(t,d)::r→F t d r=some x→G):G:=by
 cases l with
 | nil=>exact no h
 | cons p l=>exact g p.1 p.2 l rfl h
noncomputable def gB (b:Bool)(r:Option α):Option α:=match b with | true=>r | false=>none
theorem Js (h:gB b r=some x)(g:b=true→r=some x→G):G:=bT h g
noncomputable def gO (o:Option β)(F:β→Option α):Option α:=match o with | some y=>F y | none=>none
theorem Xv (h:gO o F=some x)(g:∀ y,o=some y→F y=some x→G):G:=by
 cases o with
 | none=>exact no h
 | some y=>exact g y rfl h
end
def Je (nt:List Stmt)(f:Orc):Prop:=∀ c o,Z5 c (Z1 nt o)→∀ a b l st r st',f a b l st=some (r,st')→Z0 c (Z1 nt o) (.call a b l) st r st'
theorem Je.g (h:Je nt f):Y4 (Z1 nt f):=fun c u0 W a b l st r st' e=>h c f W a b l st r st' e
theorem Je.or {nt:List Stmt}{f g:Orc}(h:Je nt f)(k:Je nt g):Je nt (ZiE f g):=by
 intro c o W a b l st r st' e;have e:(match f a b l st with | some r=>some r | none=>g a b l st)=some (r,st'):=e
 cases q:f a b l st with
 | none=>rw [q] at e;exact k c o W a b l st _ _ e
 | some z=>rw [q] at e;cases e;exact h c o W a b l st _ _ q
theorem Z2V (h:Z0 c T cmd st o st'):Z0 c T' cmd st o st':=by
 induction cmd using Cmd.casesOn<;>induction o using Out.casesOn<;>exact h
end
section
variable {f g:Nat→Nat}{p:Nat→Bool}
theorem Z1i (h:∀ i,p i=true→f i=g i):∀ {x:MV},inV p x=true→Zl f x=Zl g x
 | .ref l,hi=>by show MV.ref _=MV.ref _;rw [h l hi]
 | .none,_=>rfl
 | .bool _,_=>rfl
 | .int _,_=>rfl
 | .str _,_=>rfl
 | .old _,_=>rfl
 | .bi _,_=>rfl
theorem Z46 (h:∀ i,p i=true→f i=g i){xs:List MV}(hi:xs.all (inV p)=true):xs.map (Zl f)=xs.map (Zl g) :=
 W0f fun x hx=>Z1i h (all_eq_true.mp hi x hx)
theorem Z2d (h:∀ i,p i=true→f i=g i)(hi:inD p xs=true):ZZ f xs=ZZ g xs :=
 W0f fun x hx=>by rw [Z1i h (all_eq_true.mp hi x hx)]
theorem Z3K (h:∀ i,p i=true→f i=g i):∀ {o:MObj},inO p o=true→ZA f o=ZA g o
 | .tup xs,hi=>by show MObj.tup _=MObj.tup _;rw [Z46 h hi]
 | .list xs,hi=>by show MObj.list _=MObj.list _;rw [Z46 h hi]
 | .dict es,hi=>by show MObj.dict _=MObj.dict _;rw [Z2d h hi]
 | .fdict es j,hi=>by
  have hi:(inD p es&&p j)=true:=hi;rw [and_eq_true] at hi;show MObj.fdict _ _=MObj.fdict _ _;rw [Z2d h hi.1,h j hi.2]
 | .inst C d,hi=>by show MObj.inst _ _=MObj.inst _ _;rw [h d hi]
 | .frame m,hi=>by show MObj.frame _=MObj.frame _;rw [Z2d h hi]
 | .cell none,_=>rfl
 | .cell (some x),hi=>by show MObj.cell (some _)=MObj.cell (some _);rw [Z1i h hi]
 | .lam e sc cs cv q,hi=>by
  show MObj.lam _ _ (cs.map fun p=>(p.1,f p.2)) _ _=MObj.lam _ _ (cs.map fun p=>(p.1,g p.2)) _ _
  rw [map_congr_left fun x hx=>by rw [h x.2 (all_eq_true.mp hi x hx)]]
 | .rng ..,_=>rfl
 | .itList l k,hi=>by show MObj.itList _ _=MObj.itList _ _;rw [h l hi]
 | .itTup x k,hi=>by show MObj.itTup _ _=MObj.itTup _ _;rw [Z1i h hi]
 | .itRange ..,_=>rfl
 | .itStr ..,_=>rfl
 | .itDict d k n,hi=>by show MObj.itDict _ _ _=MObj.itDict _ _ _;rw [h d hi]
 | .itEnum it k,hi=>by show MObj.itEnum _ _=MObj.itEnum _ _;rw [h it hi]
 | .itEnumO it k j,hi=>by
  have hi:(p it&&p j)=true:=hi;rw [and_eq_true] at hi;show MObj.itEnumO _ _ _=MObj.itEnumO _ _ _;rw [h it hi.1,h j hi.2]
 | .code _,_=>rfl
 | .src ..,_=>rfl
 | .tab P ps q es,hi=>by
  show MObj.tab _ _ _ (es.map fun e=>(e.1,e.2.1,f e.2.2))=MObj.tab _ _ _ (es.map fun e=>(e.1,e.2.1,g e.2.2))
  rw [map_congr_left fun x hx=>by rw [h x.2.2 (all_eq_true.mp hi x hx)]]
end
theorem Z5r (i:Nat)(h:below n0 i=true):gOf n0 n new f i=f i:=by
 unfold gOf;rw [show blt i n0=true from h]
section
variable {c:Cfg}{T:Tab}{st st' st1 st2:St}{ξ:Z3}
theorem Ran.same {fl:List Nat}{os olds news:List (Option MObj)}{new:List Nat}(r:Ran st st' fl os olds news new){i:Nat}{o:MObj}(h1:os[i]?=some (some o))(h2:olds[i]?=some (some o))(hi:inO (below fl.length) o=true):Has st' (fl.getD i 0) (ZA (idx fl) o):=by
 have:=r.old i o o h1 h2
 rwa [Z3K (p:=below fl.length) (fun i h=>Z5r i h) hi] at this
theorem Z7D {os news:List (Option MObj)}(hf:ZG st (idx fl) fl os)(hd:(Zj fl os).Nodup)(hc:Y1 (below fl.length) os=true) :
  St.Eqv (Ys st (gOf fl.length st.n new (idx fl)) fl os os news) (Qi (gOf fl.length st.n new (idx fl)) st news):=by
 unfold Ys;refine ⟨by rw [Z31,Z31,Q5],fun j=>?_⟩;have e:(Xr (gOf fl.length st.n new (idx fl)) st fl os os).get j=st.get j:=by
  by_cases hp:j∈Zj fl os
  ·(refine xEEAA (Z1o hp) ?_;intro i oi k1 k2 o0;subst o0)
   rw [Z3y _ fl os os st i oi _ hd k1 k2 k2,(hf.at k2).2];show some _=some _;rw [Z3K (p:=below fl.length) (fun i h=>Z5r i h) (Z1S hc k2)]
  ·exact Xs _ _ _ _ _ _ hp
 rw [Xq,Xq,Q5,e]
theorem Z1N {os olds news:List (Option MObj)}(h:Yi n0 n' os olds news new=true):Y1 (below n0) os=true:=by
 (first | delta Yi at h | unfold Yi at h)
 simp only [and_eq_true] at h;exact h.1.1.1.1.1.1.1.1
theorem Z2P (W:Z5 c T)(O:Y4 T){os news:List (Option MObj)}(r:ZM T N (.call fn args lev) os fl.length new (.v x) n' os news)
  (ha:(inV (below fl.length) fn&&args.all (inV (below fl.length)))=true) (hf:ZG st (idx fl) fl os) (hd:(Zj fl os).Nodup) :
  Z0 c T (.call (Zl (idx fl) fn) (args.map (Zl (idx fl))) lev) st (.v (Zl (gOf fl.length st.n new (idx fl)) x)) (Qi (gOf fl.length st.n new (idx fl)) st news):=by
 obtain ⟨hr,hc⟩:=r;rw [and_eq_true] at hc ha
 (refine xEAAA (Z3U hr) ?_;intro st0' h1 h2 h3 h4)
 intro A ρ s E fv vs rm R hfv hvs;have hl:(mkS os).n=fl.length:=by rw [Xp,hf.len]
 have L:=Z2c (c:=c) hf hd hc.1 h2 h3 h4 fun j o e=>(R.at_ j o e).1;have m:=Z2R W O h1 L.M (by rw [hl]; exact ha.1) (by rw [hl]; exact ha.2) (by rw [hl]; exact hc.2) L.hn L.hnew L.cl L.hfr;rw [hl] at m;exact Zbu m (Z7D hf hd (Z1N hc.1)) A ρ s E fv vs rm R hfv hvs
theorem Z6c (hn:st1.n=st.n)(h:∀ ρ s,Rel c ρ st s→Rel c ρ st1 s)(m:Z0 c T (.call f args lev) st1 (.v x) st'):Z0 c T (.call f args lev) st (.v x) st':=by
 intro A ρ s E fv vs rm R hf ha;rw [← hn] at hf ha ⊢;exact m A ρ s E fv vs rm (h ρ s R) hf ha
theorem ZbS (hn:st1.n=st.n)(h:∀ ρ s,Rel c ρ st s→Rel c ρ st1 s)(m:Z0 c T (.sts l ξ) st1 o st'):Z0 c T (.sts l ξ) st o st':=by
 intro A ρ env s E rm e0 R;rw [← hn] at e0 ⊢;exact m A ρ env s E rm e0 (h ρ s R)
theorem Z1W (hn:st1.n=st2.n)(h:∀ ρ s,Rel c ρ st1 s→Rel c ρ st2 s)(m:Z0 c T (.call f args lev) st (.v x) st1):Z0 c T (.call f args lev) st (.v x) st2:=by
 intro A ρ s E fv vs rm R hf ha;exact wpAny_mono (m A ρ s E fv vs rm R hf ha) (fun v s' z9=>xEAAA z9 fun ρ' g k R' p=>⟨ρ',g,hn▸k,h _ _ R',hn▸p⟩) fun u0 u0 z=>z
noncomputable def YK:Int→Int→List (Int×Int)→Prop
 | _,_,[]=>True
 | a,b,(t,d)::l=>0<t∧t<1000∧dr a b t=d∧YK (nxA a t) (nxB a b) l
theorem Z99 (b:Int):0≤rB b∧rB b<2147483647:=by
 unfold rB;exact ⟨Int.fmod_nonneg_of_pos _ (by decide),Int.fmod_lt_of_pos _ (by decide)⟩
theorem Qt.next (h:Qt a b)(ht:0<t):Qt (nxA a t) (nxB a b):=by
 unfold Qt nxA nxB at *;obtain ⟨h1,h2,h3⟩:=h;by_cases q:0<a
 ·rw [if_pos q,if_pos q];exact ⟨Int.fdiv_nonneg h1 (by omega),h2,h3⟩
 ·rw [if_neg q,if_neg q];exact ⟨h1,Z99 b⟩
theorem YK.fut:∀ {l:List (Int×Int)}{a b:Int},Qt a b→YK a b l→Fut a b l
 | [],_,_,h,_=>h
 | (t,d)::l,a,b,h,k=>⟨k.1,k.2.1,h,k.2.2.1,YK.fut (h.next k.1) k.2.2.2⟩
theorem YV (a b:Int)(h:0<t):0≤dr a b t∧dr a b t<t:=by
 unfold dr
 split
 ·exact ⟨Int.fmod_nonneg_of_pos _ h,Int.fmod_lt_of_pos _ h⟩
 ·exact ⟨Int.fmod_nonneg_of_pos _ h,Int.fmod_lt_of_pos _ h⟩
theorem Rel.as (R:Rel c ρ st s)(hi:st.get i=some o)(hk:fy o=fy o')(hr:ZE o=ZE o')(h:At c ρ st.n s.heap i o→At c ρ st.n s.heap i o'):Rel c ρ (st.put i o') s:=by
 have get:∀ j oj,(st.put i o').get j=some oj→(j=i∧oj=o')∨(j≠i∧st.get j=some oj):=by
  intro j oj e;rw [St.get_put] at e;by_cases hj:j=i
  ·rw [if_pos hj] at e;exact .inl ⟨hj,(W0g e).symm⟩
  ·rw [if_neg hj] at e;exact .inr ⟨hj,e⟩
 have old:∀ j oj,(st.put i o').get j=some oj→∃ oj',st.get j=some oj':=by
  intro j oj e;rcases get j oj e with ⟨rfl,_⟩ | ⟨_,e⟩
  ·exact ⟨_,hi⟩
  ·exact ⟨_,e⟩
 refine ⟨fun L g=>xAA (R.big L g) fun x y z=>⟨x,y,fun j oj e q=>?_⟩,fun j oj e=>?_,fun j l oj ol ej el q=>?_,R.ro,R.keep,R.gens,R.os,R.drawn⟩
 ·rcases get j oj e with ⟨rfl,rfl⟩ | ⟨_,e⟩
  ·rw [← hr]; exact z j _ hi q
  ·exact z j _ e q
 ·rcases get j oj e with ⟨rfl,rfl⟩ | ⟨_,e⟩
  ·obtain ⟨x,y,z⟩:=R.at_ _ _ hi;exact ⟨x,h y,z⟩
  ·exact R.at_ j oj e
 ·obtain ⟨_,ej⟩:=old j oj ej;obtain ⟨_,el⟩:=old l ol el;exact R.inj j l _ _ ej el q
theorem Z5X (h:st.get i=some (.src a b []))(hl:YK a b l)(ρ:Rho)(s:Shared)(R:Rel c ρ st s):Rel c ρ (st.put i (.src a b l)) s :=
 R.as h rfl rfl fun ⟨t,u,ep,e,g⟩=>⟨t,u,ep,e,hl.fut g⟩
theorem Z9I (h:st.get i=some (.src a b l))(ρ:Rho)(s:Shared)(R:Rel c ρ st s):Rel c ρ (st.put i (.list [.int a,.int b])) s :=
 R.as h rfl rfl fun ⟨t,u,ep,e,_⟩=>⟨_,ep,e,⟨t,rfl⟩,⟨u,rfl⟩,trivial⟩
theorem Z6h (h:st.get i=some (.list [.int a,.int b]))(hl:Fut a b l)(ρ:Rho)(s:Shared)(R:Rel c ρ st s):Rel c ρ (st.put i (.src a b l)) s :=
 R.as h rfl rfl fun ⟨vs,ep,e,z⟩=>by
  (refine xEEAA (ZdU z) ?_;intro x y e1 o0 o1;obtain ⟨t,rfl⟩:=o0;obtain ⟨u,rfl⟩:=o1)
  have:vs=#[.int a t,.int b u]:=toList_inj.mp (by rw [e1])
  subst this;exact ⟨t,u,ep,e,hl⟩
end
section
variable {c:Cfg}{T:Tab}{nt:List Stmt}{orc:Orc}{st st' st1 st2:St}{ξ:Z3}
theorem Z9v (hL:Has st ξ.loc (.frame m))(hfn:Zi ξ.sc.kind=true)(hk:kindOf x ξ.sc.names=some .local)(hl:Z2 x m=some v):Yb T c.ro ξ x st=some v:=by
 unfold Yb;rw [hfn,hk];dsimp only;rw [hL.rd];exact hl
theorem Qj (W:Z5 c T)(hL:Has st ξ.loc (.frame m))(hfn:Zi ξ.sc.kind=true)(hk:kindOf x ξ.sc.names=some .local)(hl:Z2 x m=some v)(hd:decide (x=dbg)=false):Z0 c T (.ex (.Name x p) ξ) st (.v v) st :=
 Z6O W hd (Z9v hL hfn hk hl)
theorem Zbm (hfn:Zi ξ.sc.kind=true)(hk:kindOf x ξ.sc.names=some .globalImplicit)(hd:decide (x=dbg)=false)(hg:T.glob x=some v):Yb T c.ro ξ x st=some v:=by
 unfold Yb;rw [hfn,hk];rw [hd];exact hg
theorem Z6b (W:Z5 c T)(hfn:Zi ξ.sc.kind=true)(hk:kindOf x ξ.sc.names=some .globalImplicit)(hd:decide (x=dbg)=false)(hg:T.glob x=some v):Z0 c T (.ex (.Name x p) ξ) st (.v v) st :=
 Z6O W hd (Zbm hfn hk hd hg)
theorem Z7e (hL:Has st ξ.loc (.frame m))(hfn:Zi ξ.sc.kind=true)(hk:kindOf x ξ.sc.names=some .local):Z0 c T (.asg (.Name x p) v ξ) st .u (st.put ξ.loc (.frame (Zh x v m))):=by
 refine Z30 ?_;unfold Zx;rw [hfn,hk];dsimp only;rw [hL.2]
theorem Z9j (hL:Has st ξ.loc (.frame m))(hfn:Zi ξ.sc.kind=true)(hk:kindOf x ξ.sc.names=some .local)(hp:Zh x v m=m'):Z0 c T (.asg (.Name x p) v ξ) st .u (st.put ξ.loc (.frame m')) :=
 hp▸Z7e hL hfn hk
theorem Z4a (h:rd ro st j=some (.dict es)):YD T ro st (.ref j) (.str x)=Z2 x es:=congrArg (Zk1 (.str x)) h
theorem Z7t (h:rd ro st j=some (.list xs)):YD T ro st (.ref j) (.int k)=JH xs k:=congrArg (Zk1 (.int k)) h
theorem Yt (h:Has st s (.list xs))(hk:JH xs k=some v)(ro:Tr MObj):YD T ro st (.ref s) (.int k)=some v:=(Z7t (h.rd _)).trans hk
theorem Z9Z (W:Z5 c T)(hk:Z0 c T (.ex (.Name "int" p1) ξ) st (.v (.bi .int)) st)(h:Z0 c T (.ex e ξ) st (.v (.int i)) st1)(hs:Zq e=false) :
  Z0 c T (.ex (.Call (.Name "int" p1) [e] [] p2) ξ) st (.v (.int i)) st1 :=
 Z58 W rfl (by unfold any;rw [hs]; rfl) rfl hk (Z8x h Z8n) (Zes W rfl)
def Yy:ZF:=Z8 (Ze 66) [] 555 "_law_take"
noncomputable def fr2 (s:Nat)(t:Int):MObj:=.frame [("source",.ref s),("top",.int t)]
theorem Z4B (a t:Int)(ht:0<t)(ht2:t<1000):Builtin.divisionGoesByPylong a t=false:=by
 unfold Builtin.divisionGoesByPylong;have h:t.natAbs.log2<10:=by
  rw [Nat.log2_lt (by omega)]; omega
 have h2:(t==0)=false:=by simp;omega
 simp only [h2];have:¬ (t.natAbs.log2 / 30+1 > 300):=by omega
 simp [this]
theorem Z7h (h0:0≤b)(h:b<2147483647):decide (Builtin.Int.intBits b > shortFactorBits)=false:=by
 rw [decide_eq_false_iff_not];unfold Builtin.Int.intBits shortFactorBits
 split
 ·omega
 ·rename_i q;have hb:b≠0:=by simpa using q
  have:b.natAbs.log2<31:=by
   rw [Nat.log2_lt (by omega)]; omega
  omega
theorem Za4 (W:Z5 c (Z1 nt orc))(ha:0<a)(ht:0<t)(ht2:t<1000)(hs:Has st s (.list [.int a,.int b])) :
  Z0 c (Z1 nt orc) (.sts Yy.body (Zv Yy st.n lev)) (st.push (fr2 s t)) (.ret (.int (a.fmod t))) (((st.push (fr2 s t)).put st.n (.frame [("source",.ref s),("top",.int t),("drawn",.int (a.fmod t))])).put s (.list [.int (a.fdiv t),.int b])):=by
 have hL:Has (st.push (fr2 s t)) st.n (fr2 s t):=Has.new;have h1:Has (st.push (fr2 s t)) s (.list [.int a,.int b]):=hs.push;have hne:s≠st.n:=W05 hs.1;have S:∀ p,Z0 c (Z1 nt orc) (.ex (.Name "source" p) (Zv Yy st.n lev)) (st.push (fr2 s t)) (.v (.ref s)) (st.push (fr2 s t)):=fun p=>Qj W hL ∅ ∅ ∅ ∅;have P:∀ p,Z0 c (Z1 nt orc) (.ex (.Name "top" p) (Zv Yy st.n lev)) (st.push (fr2 s t)) (.v (.int t)) (st.push (fr2 s t)):=fun p=>Qj W hL ∅ ∅ ∅ ∅
 have G0:YD (Z1 nt orc) c.ro (st.push (fr2 s t)) (.ref s) (.int 0)=some (.int a):=Yt h1 rfl _;have htne:decide (t=0)=false:=by rw [decide_eq_false_iff_not]; omega
 have D:∀ p,Z0 c (Z1 nt orc) (.asg (.Name "drawn" p) (.int (a.fmod t)) (Zv Yy st.n lev)) (st.push (fr2 s t)) .u ((st.push (fr2 s t)).put st.n (.frame [("source",.ref s),("top",.int t),("drawn",.int (a.fmod t))])):=fun p=>Z9j hL ∅ ∅ ∅
 let st1:St:=(st.push (fr2 s t)).put st.n (.frame [("source",.ref s),("top",.int t),("drawn",.int (a.fmod t))])
 have hL1:Has st1 st.n (.frame [("source",.ref s),("top",.int t),("drawn",.int (a.fmod t))]):=Has.put_same (W02 _);have h2:Has st1 s (.list [.int a,.int b]):=h1.put hne;have S1:∀ p,Z0 c (Z1 nt orc) (.ex (.Name "source" p) (Zv Yy st.n lev)) st1 (.v (.ref s)) st1:=fun p=>Qj W hL1 ∅ ∅ ∅ ∅;have P1:∀ p,Z0 c (Z1 nt orc) (.ex (.Name "top" p) (Zv Yy st.n lev)) st1 (.v (.int t)) st1:=fun p=>Qj W hL1 ∅ ∅ ∅ ∅
 have G1:YD (Z1 nt orc) c.ro st1 (.ref s) (.int 0)=some (.int a):=Yt h2 rfl _;have h3:Has (st1.put s (.list [.int (a.fdiv t),.int b])) st.n (.frame [("source",.ref s),("top",.int t),("drawn",.int (a.fmod t))]):=hL1.put (Ne.symm hne);refine Z5i (Zcz (d:=true) (Z3E (a:=.int a) W rfl (Q3 W rfl (S _) (Yl rfl) G0) (Yl rfl) (show some (decide (0<a))=some true by rw [decide_eq_true ha])) ?_)
 refine QI (st1:=st1) (Z1p rfl (JK (x:=.int (a.fmod t)) W (Z9Z W (Z6b W ∅ ∅ ∅ ∅) (Q3 W rfl (S _) (Yl rfl) G0) rfl) (P _) ?_) (D _)) ?_
 ·show (match decide (t=0) with | false=>_ | true=>_)=_
  rw [htne]
 refine QI (st1:=st1.put s (.list [.int (a.fdiv t),.int b])) (Z1p rfl (JK (x:=.int (a.fdiv t)) W (Q3 W rfl (S1 _) (Yl rfl) G1) (P1 _) ?_) (Z2z W (S1 _) (Yl rfl) ?_)) ?_
 ·show (match t==0,Builtin.divisionGoesByPylong a t with | false,false=>_ | _,_=>_)=_
  rw [Z4B a t ht ht2,show (t==0)=false by simp;omega]
 ·unfold Xd;dsimp only;rw [h2.2];rfl
 exact ZaX (Z8R (Qj W h3 ∅ ∅ ∅ ∅)) nofun
theorem Z9z (W:Z5 c (Z1 nt orc))(ha:¬ 0<a)(ht:0<t)(_ht2:t<1000)(hb0:0≤b)(hb:b<2147483647)(hs:Has st s (.list [.int a,.int b])) :
  Z0 c (Z1 nt orc) (.sts Yy.body (Zv Yy st.n lev)) (st.push (fr2 s t)) (.ret (.int ((((rB b*rB b).fmod 2147483629).fdiv 32).fmod t))) ((st.push (fr2 s t)).put s (.list [.int a,.int (rB b)])):=by
 have hL:Has (st.push (fr2 s t)) st.n (fr2 s t):=Has.new;have h1:Has (st.push (fr2 s t)) s (.list [.int a,.int b]):=hs.push;have hne:s≠st.n:=W05 hs.1;have S:∀ p,Z0 c (Z1 nt orc) (.ex (.Name "source" p) (Zv Yy st.n lev)) (st.push (fr2 s t)) (.v (.ref s)) (st.push (fr2 s t)):=fun p=>Qj W hL ∅ ∅ ∅ ∅;have G0:YD (Z1 nt orc) c.ro (st.push (fr2 s t)) (.ref s) (.int 0)=some (.int a):=Yt h1 rfl _
 have G1:YD (Z1 nt orc) c.ro (st.push (fr2 s t)) (.ref s) (.int 1)=some (.int b):=Yt h1 rfl _;have htne:decide (t=0)=false:=by rw [decide_eq_false_iff_not]; omega
 let st1:St:=(st.push (fr2 s t)).put s (.list [.int a,.int (rB b)])
 have hL1:Has st1 st.n (fr2 s t):=hL.put (Ne.symm hne);have h2:Has st1 s (.list [.int a,.int (rB b)]):=Has.put_same h1.1;have S1:∀ p,Z0 c (Z1 nt orc) (.ex (.Name "source" p) (Zv Yy st.n lev)) st1 (.v (.ref s)) st1:=fun p=>Qj W hL1 ∅ ∅ ∅ ∅;have P1:∀ p,Z0 c (Z1 nt orc) (.ex (.Name "top" p) (Zv Yy st.n lev)) st1 (.v (.int t)) st1:=fun p=>Qj W hL1 ∅ ∅ ∅ ∅
 have G2:YD (Z1 nt orc) c.ro st1 (.ref s) (.int 1)=some (.int (rB b)):=Yt h2 rfl _;have I:∀ st p,Z0 c (Z1 nt orc) (.ex (.Name "int" p) (Zv Yy st1.n lev)) st (.v (.bi .int)) st:=fun st p=>Z6b W ∅ ∅ ∅ ∅;have I':∀ st2 p,Z0 c (Z1 nt orc) (.ex (.Name "int" p) (Zv Yy st.n lev)) st2 (.v (.bi .int)) st2:=fun st p=>Z6b W ∅ ∅ ∅ ∅;have hr:=Z99 b
 have mul:∀ x y:Int,0≤x→x<2147483647→Jn x y=true:=fun x y h0 h1=>by
  unfold Jn;rw [Z7h h0 h1]; rfl
 refine QI (Zcz (d:=false) (Z3E (a:=.int a) W rfl (Q3 W rfl (S _) (Yl rfl) G0) (Yl rfl) (show some (decide (0<a))=some false by rw [decide_eq_false ha])) Z8C) ?_;refine QI (st1:=st1) (Z1p (x:=.int (rB b)) rfl (JK W (Z9Z (i:=b*39373+7) W (I' _ _) (JK W (JK (x:=.int (b*39373)) W (Q3 W rfl (S _) (Yl rfl) G1) (Yl rfl) ?_) (Yl rfl) rfl) rfl) (Yl rfl) rfl) (Z2z W (S _) (Yl rfl) ?_)) ?_
 ·show (match Jn b 39373 with | true=>_ | false=>_)=_
  rw [mul b _ hb0 hb]
 ·unfold Xd;dsimp only;rw [h1.2];rfl
 refine ZaX (Z8R (JK W (Z9Z (i:=((rB b*rB b).fmod 2147483629).fdiv 32) W (I' _ _) (JK W (JK (x:=.int ((rB b*rB b).fmod 2147483629)) W (Z9Z (i:=rB b*rB b) W (I' _ _) (JK W (Q3 W rfl (S1 _) (Yl rfl) G2) (Q3 W rfl (S1 _) (Yl rfl) G2) ?_) rfl) (Yl rfl) rfl) (Yl rfl) rfl) rfl) (P1 _) ?_)) nofun
 ·show (match Jn (rB b) (rB b) with | true=>_ | false=>_)=_
  rw [mul _ _ hr.1 hr.2]
 ·show (match decide (t=0) with | false=>_ | true=>_)=_
  rw [htne]
theorem Rel.less (R:Rel c ρ st s)(hn:st0.n=st.n)(h:∀ i o,st0.get i=some o→st.get i=some o):Rel c ρ st0 s :=
 ⟨fun L g=>xAA (R.big L g) fun a b d=>⟨a,b,fun i o e q=>d i o (h i o e) q⟩,fun i o e=>by rw [hn]; exact R.at_ i o (h i o e),fun i j oi oj ei ej q=>R.inj i j oi oj (h _ _ ei) (h _ _ ej) q,fun i o e=>by rw [hn]; exact R.ro i o e,R.keep,R.gens,R.os,R.drawn⟩
theorem Z2U (h:∀ ρ s,Rel c ρ st s→Z0 c T (.call f args lev) st (.v x) st'):Z0 c T (.call f args lev) st (.v x) st' :=
 fun A ρ s E fv vs rm R hf ha=>h ρ s R A ρ s E fv vs rm R hf ha
theorem Z5A (W:Z5 c (Z1 nt orc))(hs:st.get s=some (.src a b ((t,d)::l)))(ht:0<t)(ht2:t<1000) :
  Z0 c (Z1 nt orc) (.call (.old 556) [.ref s,.int t] (lev+1)) st (.v (.int d)) (Yx (st.put s (.src (nxA a t) (nxB a b) l)) none):=by
 refine Z2U fun ρ sh R=>?_
 (refine xAA (R.at_ _ _ hs) ?_;intro hlt o0 _;obtain ⟨_,_,_,_,hfut⟩:=o0)
 obtain ⟨_,_,hg,hd,hl⟩:=hfut;have h1:Has (st.put s (.list [.int a,.int b])) s (.list [.int a,.int b]):=Has.put_same hlt;have hne:s≠st.n:=W05 hlt;have fin:∀ {sF:St} {ρ':Rho} {s':Shared},sF.n=st.n+1→sF.get s=some (.list [.int (nxA a t),.int (nxB a b)])→(∀ j,j≠s→j≠st.n→sF.get j=st.get j)→Rel c ρ' sF s'→Rel c ρ' (Yx (st.put s (.src (nxA a t) (nxB a b) l)) none) s':=by
  intro sF ρ' s' k1 k2 k3 R';refine Rel.less (Z6h (l:=l) k2 hl ρ' s' R') ?_ fun j o e=>?_
  ·show st.n+1=sF.n;omega
  ·rw [Qh] at e;by_cases hj:j=st.n
   ·rw [if_pos (show j=(st.put s _).n from hj)] at e;cases e
   ·rw [if_neg (show ¬ j=(st.put s _).n from hj),St.get_put] at e;rw [St.get_put];by_cases hj':j=s
    ·rw [if_pos hj'] at e ⊢; exact e
    ·rw [if_neg hj'] at e ⊢; rw [k3 j hj' hj]; exact e
 refine Z6c (c:=c) (st:=st) (st1:=st.put s (.list [.int a,.int b])) rfl (fun ρ s R=>Z9I hs ρ s R) ?_;by_cases hpos:0<a
 ·have hA:nxA a t=a.fdiv t:=if_pos hpos;have hB:nxB a b=b:=if_pos hpos;have hD:d=a.fmod t:=by rw [← hd]; exact if_pos hpos
  refine Z1W (st1:=(((st.put s (.list [.int a,.int b])).push (fr2 s t)).put st.n (.frame [("source",.ref s),("top",.int t),("drawn",.int (a.fmod t))])).put s (.list [.int (a.fdiv t),.int b])) ?_ ?_ (Z9x (x:=.int d) (o:=.ret (.int d)) W (r:=Yy) rfl rfl rfl ∅ ∅ rfl (fun L=>?_) rfl)
  ·rfl
  ·intro ρ s' R';refine fin rfl ?_ (fun j q1 q2=>?_) R'
   ·rw [St.get_put,if_pos rfl,hA,hB]
   ·rw [St.get_put,if_neg q1,St.get_put,if_neg q2,St.get_push,if_neg (show ¬ j=(st.put s _).n from q2),St.get_put,if_neg q1]
  ·rw [hD]; exact Za4 (W.withG L) hpos ht ht2 h1
 ·have hA:nxA a t=a:=if_neg hpos;have hB:nxB a b=rB b:=if_neg hpos;have hD:d=(((rB b*rB b).fmod 2147483629).fdiv 32).fmod t:=by rw [← hd]; exact if_neg hpos
  refine Z1W (st1:=((st.put s (.list [.int a,.int b])).push (fr2 s t)).put s (.list [.int a,.int (rB b)])) ?_ ?_ (Z9x (x:=.int d) (o:=.ret (.int d)) W (r:=Yy) rfl rfl rfl ∅ ∅ rfl (fun L=>?_) rfl)
  ·rfl
  ·intro ρ s' R';refine fin rfl ?_ (fun j q1 q2=>?_) R'
   ·rw [St.get_put,if_pos rfl,hA,hB]
   ·rw [St.get_put,if_neg q1,St.get_push,if_neg (show ¬ j=(st.put s _).n from q2),St.get_put,if_neg q1]
  ·rw [hD]; exact Z9z (W.withG L) hpos ht ht2 hg.2.1 hg.2.2 h1
def ZkE:Orc:=fun f args lev st=>Xu 556 1 f lev (g2 args fun x y=>gR x fun s=>gI y fun t=>Zls (st.get s) fun a b q=>gHd q fun t' d l =>
 gB (decide (t=t')) (gB (decide (0<t)) (gB (decide (t<1000)) (some (.v (.int d),Yx (st.put s (.src (nxA a t) (nxB a b) l)) none)))))
theorem ZdY (nt:List Stmt):Je nt ZkE:=by
 intro c o W f args lev st r st' e;refine Z25 e ?_;clear e;intro oq hl e;subst oq;refine ZcT e ?_;clear e;intro x y oq e;subst oq;refine Ze3 e ?_;clear e;intro s oq e;subst oq;refine QH e ?_;clear e;intro t oq e;subst oq;refine Z8V e ?_;clear e;intro a b q h3 e;refine Z7L e ?_;clear e;intro t' d l oq e;subst oq;refine Js e ?_;clear e;intro h4 e;refine Js e ?_;clear e;intro h5 e
 refine Js e ?_;clear e;intro h6 e
 cases e
 have h4:=of_decide_eq_true h4;subst h4
 (refine xE (Nat.exists_eq_add_of_le' hl) ?_;intro lev o0;subst o0)
 exact Z5A W h3 (of_decide_eq_true h5) (of_decide_eq_true h6)
end
def Jt (nt:List Stmt)(t:Str)(w p q:Int)(k n:Nat):Prop :=
 ZM (Z1 nt Y7) 200 (.call (.old 306) [.str t,.ref 0] 5) [some (.tup [.int w,.int 1])] 1 [k] (.v (.ref k)) n [some (.tup [.int w,.int 1])] [some (.tup [.int p,.int q])]
def Zij (nt:List Stmt)(t:Str)(p q:Int)(k n:Nat):Prop :=
 ZM (Z1 nt Y7) 200 (.call (.old 306) [.str t,.old 105] 5) [] 0 [k] (.v (.ref k)) n [] [some (.tup [.int p,.int q])]
noncomputable def lenTab:List (Str×Int×Int×Int):=[(⟨#[49]⟩,1,1,1),(⟨#[48,46,53]⟩,1,1,2),(⟨#[48]⟩,1,0,1),(⟨#[55]⟩,1,7,1),(⟨#[51]⟩,30,3,1),(⟨#[53,48,37]⟩,30,15,1),(⟨#[45,50,53,37]⟩,30,-15,2),(⟨#[48,37]⟩,30,0,1),(⟨#[55]⟩,70,7,1),(⟨#[49,48,37]⟩,70,7,1),(⟨#[53,48,37]⟩,70,35,1)]
noncomputable def offTab:List (Str×Int×Int):=[(⟨#[48]⟩,0,1),(⟨#[53,48,37]⟩,1,2),(⟨#[49,46,53]⟩,3,2),(⟨#[45,49]⟩,-1,1),(⟨#[48,46,50,53]⟩,1,4)]
theorem ZdJ (nt:List Stmt):Jt nt ⟨#[49]⟩ 1 (1) 1 37 38∧Jt nt ⟨#[48,46,53]⟩ 1 (1) 2 46 47∧Jt nt ⟨#[48]⟩ 1 (0) 1 37 38∧Jt nt ⟨#[55]⟩ 1 (7) 1 37 38∧Jt nt ⟨#[51]⟩ 30 (3) 1 37 38∧Jt nt ⟨#[53,48,37]⟩ 30 (15) 1 36 37∧Jt nt ⟨#[45,50,53,37]⟩ 30 (-15) 2 37 38∧Jt nt ⟨#[48,37]⟩ 30 (0) 1 35 36∧Jt nt ⟨#[55]⟩ 70 (7) 1 37 38∧Jt nt ⟨#[49,48,37]⟩ 70 (7) 1 36 37∧Jt nt ⟨#[53,48,37]⟩ 70 (35) 1 36 37 :=
 ⟨⟨∅,∅⟩,⟨∅,∅⟩,⟨∅,∅⟩,⟨∅,∅⟩,⟨∅,∅⟩,⟨∅,∅⟩,⟨∅,∅⟩,⟨∅,∅⟩,⟨∅,∅⟩,⟨∅,∅⟩,⟨∅,∅⟩⟩
theorem Zdd (nt:List Stmt):Zij nt ⟨#[48]⟩ (0) 1 36 37∧Zij nt ⟨#[53,48,37]⟩ (1) 2 36 37∧Zij nt ⟨#[49,46,53]⟩ (3) 2 45 46∧Zij nt ⟨#[45,49]⟩ (-1) 1 36 37∧Zij nt ⟨#[48,46,50,53]⟩ (1) 4 46 47 :=
 ⟨⟨∅,∅⟩,⟨∅,∅⟩,⟨∅,∅⟩,⟨∅,∅⟩,⟨∅,∅⟩⟩
theorem ZbI (nt:List Stmt):∀ e∈lenTab,∃ k n,Jt nt e.1 e.2.1 e.2.2.1 e.2.2.2 k n:=by
 (refine xAAAAAAAA (ZdJ nt) ?_;intro h0 h1 h2 h3 h4 h5 h6 h7 o0;refine xAA o0 ?_;clear o0;intro h8 h9 h10)
 intro e he
 (first | delta lenTab at he | unfold lenTab at he)
 simp only [mem_cons,not_mem_nil,or_false] at he;rcases he with rfl | rfl | rfl | rfl | rfl | rfl | rfl | rfl | rfl | rfl | rfl
 ·exact ⟨_,_,h0⟩
 ·exact ⟨_,_,h1⟩
 ·exact ⟨_,_,h2⟩
 ·exact ⟨_,_,h3⟩
 ·exact ⟨_,_,h4⟩
 ·exact ⟨_,_,h5⟩
 ·exact ⟨_,_,h6⟩
 ·exact ⟨_,_,h7⟩
 ·exact ⟨_,_,h8⟩
 ·exact ⟨_,_,h9⟩
 ·exact ⟨_,_,h10⟩
theorem Zcm (nt:List Stmt):∀ e∈offTab,∃ k n,Zij nt e.1 e.2.1 e.2.2 k n:=by
 obtain ⟨h0,h1,h2,h3,h4⟩:=Zdd nt;intro e he
 (first | delta offTab at he | unfold offTab at he)
 simp only [mem_cons,not_mem_nil,or_false] at he;rcases he with rfl | rfl | rfl | rfl | rfl
 ·exact ⟨_,_,h0⟩
 ·exact ⟨_,_,h1⟩
 ·exact ⟨_,_,h2⟩
 ·exact ⟨_,_,h3⟩
 ·exact ⟨_,_,h4⟩
def Qk (x y:Str):Bool:=ZkV x.cps.toList y.cps.toList
theorem Z2y (h:Qk x y=true):x=y:=by
 induction x using PySem.Str.casesOn;induction y using PySem.Str.casesOn
 exact congrArg Str.mk (toList_inj.mp (Z5N h))
noncomputable def Q6 (t:Str)(w:Int):List (Str×Int×Int×Int)→Option (Int×Int)
 | []=>none
 | (k,a,p,q)::r=>match Qk k t,decide (a=w) with | true,true=>some (p,q) | _,_=>Q6 t w r
theorem Z2K:∀ {l:List (Str×Int×Int×Int)},Q6 t w l=some (p,q)→(t,w,p,q)∈l
 | [],h=>by cases h
 | (k,a,p',q')::r,h=>mBB (a:=Qk k t) (b:=decide (a=w)) (X:=some (p',q')) (Y:=Q6 t w r) h (fun h1 h2 e=>by
   cases e
   rw [← Z2y h1,← of_decide_eq_true h2];exact W0d) fun e=>W0e _ (Z2K e)
noncomputable def Ziw (t:Str):List (Str×Int×Int)→Option (Int×Int)
 | []=>none
 | (k,p,q)::r=>match Qk k t with | true=>some (p,q) | false=>Ziw t r
theorem Z35:∀ {l:List (Str×Int×Int)},Ziw t l=some (p,q)→(t,p,q)∈l
 | [],h=>by cases h
 | (k,p',q')::r,h=>mB (b:=Qk k t) (X:=some (p',q')) (Y:=Ziw t r) h (fun h1 e=>by
   cases e
   rw [← Z2y h1];exact W0d) fun u0 e=>W0e _ (Z35 e)
def Zmd (t:Str)(st:St):MV→Option (Out×St)
 | .ref i=>Zlm (st.get i) fun xs=>g2 xs fun x y=>gI x fun w=>gI y fun v=>gB (decide (v=1)) (gO (Q6 t w lenTab) fun p=>some (.v (.ref st.n),st.push (.tup [.int p.1,.int p.2])))
 | .old i=>gB (beq i 105) (gO (Ziw t offTab) fun p=>some (.v (.ref st.n),st.push (.tup [.int p.1,.int p.2])))
 | _=>none
def ZlC:Orc:=fun f args lev st=>Xu 306 5 f lev (g2 args fun x y=>gS x fun t=>Zmd t st y)
theorem Z4d (n0:Nat)(h:blt k n0=false):gOf n0 n [k] f k=n:=by
 unfold gOf;rw [h];show n+idxOf k [k]=n;simp
theorem Zfh (nt:List Stmt):Je nt ZlC:=by
 intro c o W f args lev st r st' e;refine Z25 e ?_;clear e;intro oq hl e;subst oq;refine ZcT e ?_;clear e;intro x y oq e;subst oq;refine Xj e ?_;clear e;intro t oq e;subst oq
 cases y with
 | ref i =>
  refine Zb6 e ?_;clear e;intro xs h3 e;refine ZcT e ?_;clear e;intro x y oq e;subst oq;refine QH e ?_;clear e;intro w oq e;subst oq;refine QH e ?_;clear e;intro v oq e;subst oq;refine Js e ?_;clear e;intro h4 e;refine Xv e ?_;clear e;intro p h5 e
  cases e
  have h4:=of_decide_eq_true h4;subst h4;obtain ⟨k,n,hr⟩:=ZbI nt _ (Z2K h5);refine Z2U fun ρ s R=>Z3i ?_ hl;have hk:blt k 1=false:=by
   have:=hr.chk
   unfold Yi at this;simp only [and_eq_true,all_cons] at this;have z:=W06 this.1.1.1.1.1.2.1.1
   cases q:blt k 1 with
   | false=>rfl
   | true=>have:=W06 q;omega
  have m:=Z2P (c:=c) (st:=st) (fl:=[i]) W.orc Y4.none hr rfl ⟨⟨(R.at_ _ _ h3).1,h3⟩,trivial⟩ (by simp [Zj]);have e:Zl (gOf [i].length st.n [k] (idx [i])) (.ref k) = .ref st.n:=congrArg MV.ref (Z4d 1 hk);rw [e] at m;exact Z2V m
 | old i =>
  refine Js e ?_;clear e;intro h3 e;refine Xv e ?_;clear e;intro p h4 e
  cases e
  rw [eq_of_beq_eq_true h3];obtain ⟨k,n,hr⟩:=Zcm nt _ (Z35 h4);refine Z3i ?_ hl;have m:=Z2P (c:=c) (st:=st) (fl:=[]) W.orc Y4.none hr rfl trivial (by simp [Zj]);have e:Zl (gOf ([]:List Nat).length st.n [k] (idx [])) (.ref k) = .ref st.n:=congrArg MV.ref (Z4d 0 rfl);rw [e] at m;exact Z2V m
 | _=>exact no e
def Run (T:Tab)(cmd:Cmd)(st:St)(o:Out)(st':St):Prop:=∀ c,Z5 c T→Z0 c T cmd st o st'
section
variable {T:Tab}{st st' st1 st2 st3 st4 st5 st6:St}{ξ:Z3}{e e1 e2 e3:Expr}{p p1 p2 p3:Pos}{x y:Str}{a b v u:MV}{o o':Out}{l:List Stmt}{t:Stmt}
theorem Z4 (h:XZ k=some v):Run T (.ex (.Constant k kd p) ξ) st (.v v) st:=fun u0 u0=>Yl h
theorem Zax (hd:decide (x=dbg)=false)(h:∀ ro,Yb T ro ξ x st=some v):Run T (.ex (.Name x p) ξ) st (.v v) st:=fun c W=>Z6O W hd (h c.ro)
theorem Za (hL:Has st ξ.loc (.frame m))(hfn:Zi ξ.sc.kind=true)(hk:kindOf x ξ.sc.names=some .local)(hl:Z2 x m=some v)(hd:decide (x=dbg)=false):Run T (.ex (.Name x p) ξ) st (.v v) st :=
 fun u0 W=>Qj W hL hfn hk hl hd
theorem Zf (hfn:Zi ξ.sc.kind=true)(hk:kindOf x ξ.sc.names=some .globalImplicit)(hd:decide (x=dbg)=false)(hg:T.glob x=some v):Run T (.ex (.Name x p) ξ) st (.v v) st :=
 fun u0 W=>Z6b W hfn hk hd hg
theorem Ql (hfn:Zi ξ.sc.kind=true)(hk:kindOf x ξ.sc.names=some .cell)(hl:Y6 x ξ.cells=some j)(hj:Has st j (.cell (some v)))(hd:decide (x=dbg)=false):Run T (.ex (.Name x p) ξ) st (.v v) st :=
 Zax hd fun ro=>by
  unfold Yb;rw [hfn,hk];rw [hl];exact congrArg gC (hj.rd ro)
theorem Qm (hfn:Zi ξ.sc.kind=true)(hk:kindOf x ξ.sc.names=some .free)(hc:decide (x=Zmc)=false)(hl:Y6 x ξ.cells=some j)(hj:Has st j (.cell (some v)))(hd:decide (x=dbg)=false):Run T (.ex (.Name x p) ξ) st (.v v) st :=
 Zax hd fun ro=>by
  unfold Yb;rw [hfn,hk];dsimp only;rw [hc];dsimp only;rw [hl];exact congrArg gC (hj.rd ro)
theorem Yd (h1:Run T (.ex e1 ξ) st (.v a) st1)(h2:Run T (.ex e2 ξ) st1 (.v b) st2)(h:∀ ro,XT ro op a b st2=some (.v v,st')):Run T (.ex (.BinOp e1 op e2 p) ξ) st (.v v) st' :=
 fun c W=>JK W (h1 c W) (h2 c W) (h c.ro)
theorem Zc8 (h1:Run T (.ex e ξ) st (.v (.int i)) st1):Run T (.ex (.UnaryOp .USub e p) ξ) st (.v (.int (-i))) st1:=fun c W=>Zd3 (h1 c W)
theorem Zao (hs:ZI e2=false)(h1:Run T (.ex e1 ξ) st (.v a) st1)(h2:Run T (.ex e2 ξ) st1 (.v b) st2)(h:∀ ro,ZY T ro st2 op a b=some d):Run T (.ex (.Compare e1 [op] [e2] p) ξ) st (.v (.bool d)) st2 :=
 fun c W=>ZbU W hs (h1 c W) (h2 c W) (h c.ro)
theorem Z2f (h1:Run T (.tst e1 ξ) st (.b d) st1)(h2:Run T (.ex (if d then e2 else e3) ξ) st1 (.v v) st'):Run T (.ex (.IfExp e1 e2 e3 p) ξ) st (.v v) st':=fun c W=>Z7U (h1 c W) (h2 c W)
theorem QL (hs:es.any Zq=false)(h1:Run T (.exs es ξ) st (.vs xs) st1)(hz:xs.length≤1000000):Run T (.ex (.Tuple es k p) ξ) st (.v (.ref st1.n)) (st1.push (.tup xs)):=fun c W=>Z8r W hs (h1 c W) hz
theorem YW (hs:es.any Zq=false)(h1:Run T (.exs es ξ) st (.vs xs) st1)(hz:xs.length≤1000000):Run T (.ex (.List es p) ξ) st (.v (.ref st1.n)) (st1.push (.list xs)):=fun c W=>Z8m W hs (h1 c W) hz
theorem Z43 (hb:JZ e=true)(h1:Run T (.ex e ξ) st (.v (.ref i)) st1)(hi:Has st1 i (.inst C d))(hC:T.cls C=some r)(hm:JE x r.attrs=true)(hd:Has st1 d (.dict es))(hl:Z2 x es=some v) :
  Run T (.ex (.Attribute e x p) ξ) st (.v v) st1:=fun c W=>ZaK W hb (h1 c W) (by
  refine (congrArg (Zlj T c.ro st1 x) (hi.rd _)).trans ?_;show (T.cls C).bind _=_;rw [hC];show (match JE x r.attrs with | true=>_ | false=>none)=_;rw [hm];exact (congrArg (Option.bind · (Z2 x)) (Xi (hd.rd _))).trans hl)
theorem Yz (hi:XX e2=false)(h1:Run T (.ex e1 ξ) st (.v a) st1)(h2:Run T (.ex e2 ξ) st1 (.v b) st2)(h:∀ ro,YD T ro st2 a b=some v):Run T (.ex (.Subscript e1 e2 p) ξ) st (.v v) st2:=fun c W=>Q3 W hi (h1 c W) (h2 c W) (h c.ro)
theorem Zp (hf:Qz f=false)(hs:args.any Zq=false)(hfun:YS T fv=true)(h1:Run T (.ex f ξ) st (.v fv) st1)(h2:Run T (.exs args ξ) st1 (.vs vs) st2)(h:Run T (.call fv vs ξ.lev) st2 (.v v) st') :
  Run T (.ex (.Call f args [] p) ξ) st (.v v) st':=fun c W=>Z58 W hf hs hfun (h1 c W) (h2 c W) (h c W)
theorem Z42 (hb:JZ e=true)(hs:args.any Zq=false)(hl:beq p1.endLine p.line=true)(hn:ble args.length 8=true)(h1:Run T (.ex e ξ) st (.v a) st1)(hm:∀ ro,Qx T ro st1 a x=some f)(hfun:YS T f=true)
  (h2:Run T (.exs args ξ) st1 (.vs vs) st2) (h:Run T (.call f (a::vs) ξ.lev) st2 (.v v) st'):Run T (.ex (.Call (.Attribute e x p1) args [] p) ξ) st (.v v) st':=fun c W=>Zb3 W hb hs hl hn (h1 c W) (hm c.ro) hfun (h2 c W) (h c W)
theorem YX:Run T (.exs [] ξ) st (.vs []) st:=fun u0 u0=>Z8n
theorem Zb (h3:Run T (.ex e ξ) st (.v v) st1)(h4:Run T (.exs rest ξ) st1 (.vs xs) st2):Run T (.exs (e::rest) ξ) st (.vs (v::xs)) st2:=fun c W=>Z8x (h3 c W) (h4 c W)
theorem Z9 (h3:Run T (.ex e ξ) st (.v v) st1):Run T (.exs [e] ξ) st (.vs [v]) st1:=Zb h3 YX
theorem ZJ (hs:ZI e2=false)(h1:Run T (.ex e1 ξ) st (.v a) st1)(h2:Run T (.ex e2 ξ) st1 (.v b) st2)(h:∀ ro,ZY T ro st2 op a b=some d):Run T (.tst (.Compare e1 [op] [e2] p) ξ) st (.b d) st2 :=
 fun c W=>Z3E W hs (h1 c W) (h2 c W) (h c.ro)
theorem ZaH (h1:Run T (.tst e ξ) st (.b d) st1):Run T (.tst (.UnaryOp .Not e p) ξ) st (.b (!d)) st1:=fun c W=>Z98 (h1 c W)
theorem Zaz (hp:Zhk e=true)(h1:Run T (.ex e ξ) st (.v (.bool d)) st1):Run T (.tst e ξ) st (.b d) st1:=fun c W=>Z8S hp (h1 c W)
theorem ZH (hL:Has st ξ.loc (.frame m))(hfn:Zi ξ.sc.kind=true)(hk:kindOf x ξ.sc.names=some .local)(hp:Zh x v m=m'):Run T (.asg (.Name x p) v ξ) st .u (st.put ξ.loc (.frame m')) :=
 fun u0 u0=>Z9j hL hfn hk hp
theorem Z19 (hfn:Zi ξ.sc.kind=true)(hk:kindOf x ξ.sc.names=some .cell)(hl:Y6 x ξ.cells=some j)(hj:Has st j (.cell w)):Run T (.asg (.Name x p) v ξ) st .u (st.put j (.cell (some v))) :=
 fun u0 u0=>Z30 (by
  unfold Zx;rw [hfn,hk];rw [hl];show (match st.get j with | some (.cell _)=>_ | _=>none)=_;rw [hj.2])
theorem Z6m (h1:Run T (.ex e1 ξ) st (.v a) st1)(h2:Run T (.ex e2 ξ) st1 (.v b) st2)(h:Xd st2 a b v (fun st=>some (.u,st))=some (.u,st')):Run T (.asg (.Subscript e1 e2 p) v ξ) st .u st':=fun c W=>Z2z W (h1 c W) (h2 c W) h
theorem Z9J (hs:ts.any Zq=false)(hi:Has st i (.tup xs))(hl:xs.length=ts.length)(h1:Run T (.asgs ts xs ξ) st .u st'):Run T (.asg (.Tuple ts k p) (.ref i) ξ) st .u st' :=
 fun c W=>Z6C W hs (by unfold YE;dsimp only;rw [hi.rd]) hl (h1 c W)
theorem ZbK:Run T (.asgs [] [] ξ) st .u st:=fun u0 u0=>Z8B
theorem Z95 (h1:Run T (.asg e v ξ) st .u st1)(h:Run T (.asgs ts xs ξ) st1 .u st2):Run T (.asgs (e::ts) (v::xs) ξ) st .u st2:=fun c W=>ZaY (h1 c W) (h c W)
theorem ZdK (hc:ZjR e=true)(hfn:Zi ξ.sc.kind=true)(h1:Run T (.ex e ξ) st (.v v) st1):Run T (.st (.Expr e p) ξ) st .nx st1:=fun c W=>Zb7 hc hfn (h1 c W)
theorem YA (h1:Run T (.ex e ξ) st (.v v) st1):Run T (.st (.Return (some e) p) ξ) st (.ret v) st1:=fun c W=>Z8R (h1 c W)
theorem Y8 (h1:Run T (.tst e ξ) st (.b d) st1)(h2:Run T (.sts (if d then b1 else b2) ξ) st1 o st'):Run T (.st (.If e b1 b2 p) ξ) st o st':=fun c W=>Zcz (h1 c W) (h2 c W)
theorem ZbL (h:Run T (.whl e b1 ξ) st o st'):Run T (.st (.While e b1 [] p) ξ) st o st':=fun c W=>Z7T (h c W)
theorem Z8L (hs:ZI e2=false)(h1:Run T (.ex e2 ξ) st (.v a) st1)(h2:∀ ro,ZT T ro st1 a (fun i st=>some (.v (.ref i),st))=some (.v (.ref i),st2))(h:Run T (.forl e1 i b1 ξ) st2 o st'):Run T (.st (.For e1 e2 b1 [] p) ξ) st o st' :=
 fun c W=>ZbT W hs (h1 c W) (h2 c.ro) (h c W)
theorem Y3 (hg:Zjp e1 e2=true)(h1:Run T (.ex e2 ξ) st (.v a) st1)(h2:Run T (.asg e1 a ξ) st1 .u st2):Run T (.st (.Assign [e1] e2 p) ξ) st .nx st2:=fun c W=>Z1p hg (h1 c W) (h2 c W)
theorem Z4Y (hfn:Zi ξ.sc.kind=true)(hh:JJ ξ x p1 p2 sc.names=false)(h1:Run T (.ex (.ListComp elt gens sc p2) ξ) st (.v v) st1)(h2:Run T (.asg (.Name x p1) v ξ) st1 .u st2):Run T (.st (.Assign [.Name x p1] (.ListComp elt gens sc p2) p) ξ) st .nx st2 :=
 fun c W=>Z2l hfn hh (h1 c W) (h2 c W)
theorem Ye:Run T (.sts [] ξ) st .nx st:=fun u0 u0=>Z8C
theorem ZV (h1:Run T (.st t ξ) st .nx st1)(h:Run T (.sts l ξ) st1 o st'):Run T (.sts (t::l) ξ) st o st':=fun c W=>QI (h1 c W) (h c W)
theorem Y5 (h1:Run T (.st t ξ) st (.ret v) st1):Run T (.sts (t::l) ξ) st (.ret v) st1:=fun c W=>Z5i (h1 c W)
theorem JP (h1:Run T (.st t ξ) st .nx st1):Run T (.sts [t] ξ) st .nx st1:=ZV h1 Ye
theorem Z4e (hx:∀ ro,Zy T ro st it=some (none,st1)):Run T (.forl e it b1 ξ) st .nx st1:=fun c W=>Z5l W (hx c.ro)
theorem QM (hx:∀ ro,Zy T ro st it=some (some v,st1))(hl:YF e it v st1=some st2)(ha:Run T (.asg e v ξ) st2 .u st3)(hb:Run T (.sts b1 ξ) st3 .nx st4)(hn:Run T (.forl e it b1 ξ) st4 o st'):Run T (.forl e it b1 ξ) st o st' :=
 fun c W=>Z3F W (hx c.ro) hl (ha c W) (hb c W) (.inl ⟨rfl,hn c W⟩)
theorem Z2Z (hx:∀ ro,Zy T ro st it=some (some v,st1))(hl:YF e it v st1=some st2)(ha:Run T (.asg e v ξ) st2 .u st3)(hb:Run T (.sts b1 ξ) st3 (.ret u) st4):Run T (.forl e it b1 ξ) st (.ret u) st4 :=
 fun c W=>Z3F W (hx c.ro) hl (ha c W) (hb c W) (.inr ⟨_,rfl,rfl,rfl⟩)
theorem Ze0 (h1:Run T (.tst e ξ) st (.b false) st1):Run T (.whl e b1 ξ) st .nx st1:=fun c W=>ZaB (h1 c W)
theorem ZeV (h1:Run T (.tst e ξ) st (.b true) st1)(h2:Run T (.sts b1 ξ) st1 .nx st2)(h:Run T (.whl e b1 ξ) st2 o st'):Run T (.whl e b1 ξ) st o st':=fun c W=>Zeg (h1 c W) (h2 c W) (h c W)
theorem Z3H (h:Run T (.tst e ξ) st (.b d) st1):Run T (.ifs [e] ξ) st (.b d) st1:=fun c W=>ZaR (h c W)
theorem Zbp (hx:∀ ro,Zy T ro st it=some (none,st1)):Run T (.comp e1 e2 ifs it acc ξ) st .u st1:=fun c W=>Z9l W (hx c.ro)
theorem Zbc (hx:∀ ro,Zy T ro st it=some (some v,st1))(hl:YF e2 it v st1=some st2)(ha:Run T (.asg e2 v ξ) st2 .u st3)(hi:Run T (.ifs ifs ξ) st3 (.b true) st4)(he:Run T (.ex e1 ξ) st4 (.v u) st5)(hacc:st5.get acc=some (.list xs))(hz:xs.length<lim)
  (hn:Run T (.comp e1 e2 ifs it acc ξ) (st5.put acc (.list (xs++[u]))) .u st'):Run T (.comp e1 e2 ifs it acc ξ) st .u st' :=
 fun c W=>Z69 W (hx c.ro) hl (ha c W) (hi c W) (.inr ⟨rfl,he c W,hacc,hz,rfl⟩) (hn c W)
theorem ZbX (hx:∀ ro,Zy T ro st it=some (some v,st1))(hl:YF e2 it v st1=some st2)(ha:Run T (.asg e2 v ξ) st2 .u st3)(hi:Run T (.ifs ifs ξ) st3 (.b false) st4)
  (hn:Run T (.comp e1 e2 ifs it acc ξ) st4 .u st'):Run T (.comp e1 e2 ifs it acc ξ) st .u st' :=
 fun c W=>Z69 (y:=.none) (st5:=st4) (xs:=[]) W (hx c.ro) hl (ha c W) (hi c W) (.inl ⟨rfl,rfl⟩) (hn c W)
theorem Z2a {elt t iter:Expr}(hh:JJ ξ y p1 p2 sc.names=true)(hf:(Zi sc.kind&&Zi ξ.sc.kind)=true)(hs:ZI iter=false)(hc:Yc ξ sc.names=some cs)(ha:Ja sc.names=true)
  (h1:Run T (.ex iter ξ) st (.v a) st1) (h2:∀ ro,ZT T ro st1 a (fun i st=>some (.v (.ref i),st))=some (.v (.ref it),st2)) (hi:QB (st2.get it)=true)
  (h3:Run T (.comp elt t ifs it st2.n ⟨{ sc with names:=YG ξ sc.names },st2.n+1,cs,ξ.code,ξ.qual,ξ.lev⟩) ((st2.push (.list [])).push (.frame [])) .u st3)
  (h4:Zx ξ y (.ref st2.n) st3 (fun st=>some (.nx,st))=some (.nx,st4)) (hm:st4.get (st2.n+1)=some (.frame m)) :
  Run T (.st (.Assign [.Name y p1] (.ListComp elt [⟨t,iter,ifs,0⟩] sc p2) p) ξ) st .nx (st4.del (st2.n+1)):=fun c W=>Z6X W hh hf hs hc ha (h1 c W) (h2 c.ro) hi (h3 c W) h4 hm
theorem YY {b:Bi}(h:∀ ro,JI T ro b args st=some (.v v,st')):Run T (.call (.bi b) args lev) st (.v v) st':=fun c W=>Zes W (h c.ro)
theorem Zeo (hr:T.fn k=some r)(hb:Yw r.ps r.dfl args=some bs)(h1:ZO r bs lev st=some (.u,st1))(h2:Run T (.sts r.body (Zv r st.n lev)) st1 o st')(hx:JL o=some v):Run T (.call (.old k) args (lev+1)) st (.v v) st' :=
 fun u0 W=>ZdB W hr hb h1 (fun L=>h2 _ (W.withG L)) hx
theorem Ju (hr:T.fn k=some r)(hb:Yw r.ps r.dfl args=some bs)(hk:Zi r.sc.kind=true)(hc:Xm r.sc.names=true)(hl:Zhz r.sc.names r.ps=true)(hn:r.ps.length=bs.length)
  (h2:Run T (.sts r.body (Zv r st.n lev)) (st.push (.frame (Jc r.ps bs []))) o st') (hx:JL o=some v):Run T (.call (.old k) args (lev+1)) st (.v v) st' :=
 fun u0 W=>Z9x W hr hb hk hc hl hn (fun L=>h2 _ (W.withG L)) hx
theorem Zcy (h:Run T (.call f args lev) st (.v v) st')(k:lev≤lev'):Run T (.call f args lev') st (.v v) st':=fun c W=>Z3i (h c W) k
theorem Z2b (O:Y4 T){os olds news:List (Option MObj)}(r:ZM T N (.call fn args lev) os fl.length new (.v v) n' olds news)
  (ha:(inV (below fl.length) fn&&args.all (inV (below fl.length)))=true) (hf:ZG st (idx fl) fl os) (hd:(Zj fl os).Nodup) :
  ∃ st',Run T (.call (Zl (idx fl) fn) (args.map (Zl (idx fl))) lev) st (.v (Zl (gOf fl.length st.n new (idx fl)) v)) st'∧Ran st st' fl os olds news new:=by
 obtain ⟨hr,hc⟩:=r;have hc':=hc;rw [and_eq_true] at hc';refine ⟨Ys st (gOf fl.length st.n new (idx fl)) fl os olds news,fun c W=>?_,Z5U hf hd hc'.1⟩
 (refine xEAAA (Z3U hr) ?_;intro st0' h1 h2 h3 h4)
 rw [and_eq_true] at ha;intro A ρ s E fv vs rm R hfv hvs;have hl:(mkS os).n=fl.length:=by rw [Xp,hf.len]
 have L:=Z2c (c:=c) hf hd hc'.1 h2 h3 h4 fun j o e=>(R.at_ j o e).1;have m:=Z2R W O h1 L.M (by rw [hl]; exact ha.1) (by rw [hl]; exact ha.2) (by rw [hl]; exact hc'.2) L.hn L.hnew L.cl L.hfr;rw [hl] at m;exact m A ρ s E fv vs rm R hfv hvs
theorem Zd4 (O:Y4 T){os olds news:List (Option MObj)}(r:ZM T N (.sts l ξ) os fl.length new o n' olds news)
  (hi:inE (below fl.length) ξ=true) (hf:ZG st (idx fl) fl os) (hd:(Zj fl os).Nodup) :
  ∃ st',Run T (.sts l (QK (idx fl) ξ)) st (Zim (gOf fl.length st.n new (idx fl)) o) st'∧Ran st st' fl os olds news new:=by
 obtain ⟨hr,hc⟩:=r;rw [and_eq_true] at hc;refine ⟨Ys st (gOf fl.length st.n new (idx fl)) fl os olds news,fun c W=>?_,Z5U hf hd hc.1⟩
 (refine xEAAA (Z3U hr) ?_;intro st0' h1 h2 h3 h4)
 intro A ρ env s E rm e0 R;have hl:(mkS os).n=fl.length:=by rw [Xp,hf.len]
 have L:=Z2c (c:=c) hf hd hc.1 h2 h3 h4 fun j o e=>(R.at_ j o e).1;have m:=Z9R W O h1 L.M (by rw [hl]; exact hi) (by rw [hl]; exact hc.2) L.hn L.hnew L.cl L.hfr;rw [hl] at m;exact m A ρ env s E rm e0 R
theorem Z9N (O:Y4 T){os olds news:List (Option MObj)}(r:ZM T N (.st t ξ) os fl.length new o n' olds news)
  (hi:inE (below fl.length) ξ=true) (hf:ZG st (idx fl) fl os) (hd:(Zj fl os).Nodup) :
  ∃ st',Run T (.st t (QK (idx fl) ξ)) st (Zim (gOf fl.length st.n new (idx fl)) o) st'∧Ran st st' fl os olds news new:=by
 obtain ⟨hr,hc⟩:=r;rw [and_eq_true] at hc;refine ⟨Ys st (gOf fl.length st.n new (idx fl)) fl os olds news,fun c W=>?_,Z5U hf hd hc.1⟩
 (refine xEAAA (Z3U hr) ?_;intro st0' h1 h2 h3 h4)
 intro A ρ env s E rm e0 R;have hl:(mkS os).n=fl.length:=by rw [Xp,hf.len]
 have L:=Z2c (c:=c) hf hd hc.1 h2 h3 h4 fun j o e=>(R.at_ j o e).1;have m:=Zcq W O h1 L.M (by rw [hl]; exact hi) (by rw [hl]; exact hc.2) L.hn L.hnew L.cl L.hfr;rw [hl] at m;exact m A ρ env s E rm e0 R
theorem Qn (O:Y4 T){os olds news:List (Option MObj)}(r:ZM T N (.ex e ξ) os fl.length new (.v v) n' olds news)
  (hi:inE (below fl.length) ξ=true) (hf:ZG st (idx fl) fl os) (hd:(Zj fl os).Nodup) :
  ∃ st',Run T (.ex e (QK (idx fl) ξ)) st (.v (Zl (gOf fl.length st.n new (idx fl)) v)) st'∧Ran st st' fl os olds news new:=by
 obtain ⟨hr,hc⟩:=r;rw [and_eq_true] at hc;refine ⟨Ys st (gOf fl.length st.n new (idx fl)) fl os olds news,fun c W=>?_,Z5U hf hd hc.1⟩
 (refine xEAAA (Z3U hr) ?_;intro st0' h1 h2 h3 h4)
 intro A ρ env s E rm e0 R;have hl:(mkS os).n=fl.length:=by rw [Xp,hf.len]
 have L:=Z2c (c:=c) hf hd hc.1 h2 h3 h4 fun j o e=>(R.at_ j o e).1;have m:=ZbY W O h1 L.M (by rw [hl]; exact hi) (by rw [hl]; exact hc.2) L.hn L.hnew L.cl L.hfr;rw [hl] at m;exact m A ρ env s E rm e0 R
theorem Ran.keeps {fl:List Nat}{os olds news:List (Option MObj)}{new:List Nat}(r:Ran st st' fl os olds news new)(hf:ZG st (idx fl) fl os)(hd:(Zj fl os).Nodup)(hc:Y1 (below fl.length) os=true){M:List Nat}
  (h:∀ i o,os[i]?=some (some o)→olds[i]?=some (some o)∨fl.getD i 0∈M):Le M st st':=by
 refine ⟨r.le.1,fun j hj hm=>?_⟩;by_cases hp:j∈Zj fl os
 ·(refine xEEAA (Z1o hp) ?_;intro i o k1 k2 o0;subst o0)
  rcases h i o k2 with q | q
  ·rw [(r.same k2 q (Z1S hc k2)).2,(hf.at k2).2]
  ·exact absurd q hm
 ·exact r.le.2 j hj hp
end
end Mine
section
open PySem.Builtin.Str PySem.StrLaws
namespace Mine
noncomputable def Qo (c:Nat):Nat→List Nat→List Nat
 | _,[]=>[]
 | i,a::r=>match beq a c with | true=>i::Qo c (i+1) r | false=>Qo c (i+1) r
noncomputable def ZlE (l:List Nat)(i j:Nat):Str:=⟨((l.drop i).take (j - i)).toArray⟩
def YZ (c:Nat)(l:List Nat):List Str:=((0::(Qo c 0 l).map (·+1)).zip (Qo c 0 l++[l.length])).map fun p=>ZlE l p.1 p.2
theorem Z8h (pre suf:List Nat)(a c:Nat):subAt ⟨(pre++a::suf).toArray⟩ ⟨#[c]⟩ pre.length=beq a c:=by
 unfold subAt;have e:((pre++a::suf).toArray.extract pre.length (pre.length+1))=#[a]:=by
  apply toList_inj.mp;simp [List.extract_eq_take_drop]
 show (((pre++a::suf).toArray.extract pre.length (pre.length+1))==#[c])=_
 rw [e,Tr.beq_eq];by_cases h:a=c<;>simp [h]
theorem Z8e (c:Nat)(l:List Nat):∀ (suf pre:List Nat)(found:Array Nat)(free:Nat),pre++suf=l→found.size≤pre.length→free≤pre.length →
  (forIn (m:=Id) (List.range' pre.length (suf.length+1)) (found,free) (occBody ⟨l.toArray⟩ ⟨#[c]⟩ l.length (l.length+1))).run.fst.toList=found.toList++Qo c pre.length suf
 | [],pre,found,free,hl,h1,h2=>by
  subst hl;rw [show ([]:List Nat).length+1=1 from rfl,show List.range' pre.length 1=[pre.length] from rfl,forIn_cons];unfold occBody;rw [if_neg (by show ¬ _;intro q;have:=q.1.2;simp [Str.length] at this;omega)];simp [Qo]
 | a::suf,pre,found,free,hl,h1,h2=>by
  have hlen:l.length=pre.length+(suf.length+1):=by rw [← hl]; simp
  rw [show (a::suf).length+1=(suf.length+1)+1 from rfl,List.range'_succ,forIn_cons];have hs:subAt ⟨l.toArray⟩ ⟨#[c]⟩ pre.length=beq a c:=by rw [← hl]; exact Z8h pre suf a c
  have hpre:(pre++[a]).length=pre.length+1:=by simp
  have hl':(pre++[a])++suf=l:=by rw [← hl]; simp
  unfold occBody;rw [hs]
  cases hb:beq a c with
  | true =>
   rw [if_pos ⟨⟨⟨by show found.size<l.length+1;omega,h2⟩,by show pre.length+1≤l.length;omega⟩,rfl⟩];have ih:=Z8e c l suf (pre++[a]) (found.push pre.length) (pre.length+1) hl' (by rw [hpre,Array.size_push]; omega) (by rw [hpre]; exact W04 _);rw [hpre] at ih;unfold Qo;rw [hb];show (forIn (m:=Id) (List.range' (pre.length+1) (suf.length+1)) (found.push pre.length,pre.length+1) (occBody ⟨l.toArray⟩ ⟨#[c]⟩ l.length (l.length+1))).run.fst.toList=_
   rw [ih]; simp
  | false =>
   rw [if_neg (fun q=>by cases q.2)];have ih:=Z8e c l suf (pre++[a]) found free hl' (by rw [hpre]; omega) (by rw [hpre]; omega);rw [hpre] at ih;unfold Qo;rw [hb];exact ih
theorem Z3Z (l:List Nat)(cuts:List Nat):partsBetween ⟨l.toArray⟩ cuts 1=((0::cuts.map (·+1)).zip (cuts++[l.length])).map fun p=>ZlE l p.1 p.2:=by
 unfold partsBetween;refine W0f fun p u0=>?_;obtain ⟨i,j⟩:=p;show Str.mk _=Str.mk _
 congr 1
 apply toList_inj.mp;simp [List.extract_eq_take_drop]
theorem Z73 (c:Nat)(l:List Nat)(hc:c<256)(hl:l≠[]):Txt.split ⟨l.toArray⟩ ⟨#[c]⟩=YZ c l:=by
 have h:=Z8e c l l [] #[] 0 rfl (Nat.zero_le _) (Nat.zero_le _);have h2:occurrences ⟨l.toArray⟩ ⟨#[c]⟩ 0 (Str.length ⟨l.toArray⟩) (Str.length ⟨l.toArray⟩+1)=Qo c 0 l:=by
  rw [occ_eq];exact h
 have hpos:0<l.length:=List.length_pos_iff.mpr hl;unfold Txt.split;have k1:Builtin.Str.strKind ⟨#[c]⟩=1:=by unfold Builtin.Str.strKind;simp [hc]
 have k2:1≤Builtin.Str.strKind ⟨l.toArray⟩:=by
  unfold Builtin.Str.strKind
  split
  ·decide
  ·split<;>decide
 rw [if_neg (by
  rw [k1];show ¬ ((decide (l.length<1)||decide (Builtin.Str.strKind ⟨l.toArray⟩<1))=true);rw [or_eq_true,decide_eq_true_eq,decide_eq_true_eq]; omega)]
 rw [h2];unfold YZ;rw [← Z3Z]
 split
 ·rename_i he;rw [List.isEmpty_iff.mp he,Z3Z];simp [ZlE]
 ·rfl
end Mine
end
namespace Mine
theorem Z33:∀ m:List (Str×MV),Z2 x (Zh x v m)=some v
 | []=>by unfold Zh Z2;rw [decide_eq_true rfl]
 | (k,y)::r=>by
  unfold Zh;by_cases q:k=x
  ·rw [decide_eq_true q];show Z2 x ((k,v)::r)=_;unfold Z2;rw [decide_eq_true q]
  ·rw [decide_eq_false q];show Z2 x ((k,y)::Zh x v r)=_;unfold Z2;rw [decide_eq_false q];exact Z33 r
theorem Z1D (h:z≠x):∀ m:List (Str×MV),Z2 z (Zh x v m)=Z2 z m
 | []=>by
  show Z2 z [(x,v)]=Z2 z []
  unfold Z2;rw [decide_eq_false (Ne.symm h)]; rfl
 | (k,y)::r=>by
  unfold Zh;by_cases q:k=x
  ·rw [decide_eq_true q];show Z2 z ((k,v)::r)=Z2 z ((k,y)::r);have:k≠z:=by rw [q]; exact Ne.symm h
   rw [Z2,Z2,decide_eq_false this]
  ·rw [decide_eq_false q];show Z2 z ((k,y)::Zh x v r)=Z2 z ((k,y)::r);rw [Z2,Z2,Z1D h r]
theorem Z9r {i:Nat}(h:i<9000000):Qb i=true:=by
 unfold Qb;rewrite [and_eq_true,decide_eq_true_eq,decide_eq_true_eq];exact And.intro (by omega) (by omega)
theorem si {i j:Int}{n:Nat}(e:(if i<0 then i+n else i)=j)(h0:0≤j)(h1:j<n):seqIndex? i n=some j.toNat:=by
 subst e;exact if_pos (Bool.and_eq_true_iff.mpr (And.intro (decide_eq_true h0) (decide_eq_true h1)))
theorem Z5a {i n:Nat}(h:i<n):seqIndex? (i:Int) n=some i:=si (if_neg (Int.not_lt.mpr (Int.natCast_nonneg i))) (Int.natCast_nonneg i) (Int.ofNat_lt.mpr h)
theorem Z7Y (hf:Qb i=true)(hq:seqIndex? i xs.length=some j):JH xs i=xs[j]?:=by
 unfold JH
 split
 ·rw [hq]; rfl
 ·rename_i h;rw [hf] at h;cases h
theorem JQ {i:Nat}(h:xs[i]?=some v)(hi:i<9000000):JH xs i=some v :=
 (Z7Y (Z9r hi) (Z5a (List.getElem?_eq_some_iff.mp h).1)).trans h
theorem Z7S {st:St}(h:Has st i (.list xs))(hz:xs.length≤1000000):Run T (.call (.bi .len) [.ref i] lev) st (.v (.int xs.length)) st:=YY fun ro=>by
 show (match rd ro st i with | some (.list xs)=>(match ble xs.length lim with | true=>some (Out.v (.int xs.length),st) | false=>none) | some (.tup xs)=>_ | _=>none)=_
 rw [h.rd];dsimp only;rw [show ble xs.length lim=true from ble_eq_true_of_le hz]
theorem Z66 {st:St}(h:Has st i (.rng a b c))(hs:Builtin.Range.small a b c=true)(h0:decide (0≤Builtin.Range.rangeSize a b c)=true) :
  ZT T ro st (.ref i) (fun i st=>some (.v (.ref i),st))=some (.v (.ref st.n),st.push (.itRange a (Builtin.Range.rangeSize a b c).toNat c)):=by
 show ZkD ro st i _ (rd ro st i)=_
 rw [h.rd];show (match Builtin.Range.small a b c,decide (0≤Builtin.Range.rangeSize a b c) with | true,true=>_ | _,_=>none)=_;rw [hs,h0];rfl
theorem QN {st:St}(h:Has st i (.list xs)):ZT T ro st (.ref i) (fun i st=>some (.v (.ref i),st))=some (.v (.ref st.n),st.push (.itList i 0)):=by
 unfold ZT;dsimp only;rw [h.rd];rfl
theorem Z9D {st:St}(h:Has st i (.tup xs)):ZT T ro st (.ref i) (fun i st=>some (.v (.ref i),st))=some (.v (.ref st.n),st.push (.itTup (.ref i) 0)):=by
 unfold ZT;dsimp only;rw [h.rd];rfl
theorem Z0W {st:St}(hi:Has st it (.itList l k))(hl:Has st l (.list xs))(hk:xs[k]?=some v):Zy T ro st it=some (some v,st.put it (.itList l (k+1))):=by
 unfold Zy;rw [hi.2];dsimp only;rw [hl.rd];dsimp only;rw [hk]
theorem Z1l {st:St}(hi:Has st it (.itList l k))(hl:Has st l (.list xs))(hk:xs.length≤k):Zy T ro st it=some (none,st.del it):=by
 unfold Zy;rw [hi.2];dsimp only;rw [hl.rd];dsimp only;rw [List.getElem?_eq_none hk]
theorem Z6s {st:St}(hi:Has st it (.itTup (.ref l) k))(hl:Has st l (.tup xs))(hk:xs[k]?=some v):Zy T ro st it=some (some v,st.put it (.itTup (.ref l) (k+1))):=by
 unfold Zy YE;rw [hi.2];dsimp only;rw [hl.rd];dsimp only;rw [hk]
theorem Z8G {st:St}(hi:Has st it (.itTup (.ref l) k))(hl:Has st l (.tup xs))(hk:xs.length≤k):Zy T ro st it=some (none,st.del it):=by
 unfold Zy YE;rw [hi.2];dsimp only;rw [hl.rd];dsimp only;rw [List.getElem?_eq_none hk]
noncomputable def Jv (x:Str):List Str→Option Str
 | a::b::r=>match decide (a=x) with | true=>some b | false=>Jv x r
 | _=>none
def Yg (nt:List Stmt):Prop:=∃ k p q,∃ l:List Nat,nt=[.Return (some (.Constant (.str ⟨l.toArray⟩) k p)) q]∧(YZ 32 l).length=294∧l.length≤1000000∧l≠[] ∧
 Jv "red" (YZ 32 l)=some "ff0000"∧Jv "blue" (YZ 32 l)=some "0000ff"∧Jv "black" (YZ 32 l)=some "000000"
section
variable {nt:List Stmt}{orc:Orc}{st st' st1:St}{lev:Nat}
def vnR:ZF:=Z8 (Ze 3) [] 34 "value_of_name"
def vnE (L lev:Nat):Z3:=⟨vnR.sc,L,[],vnR.code,ZU vnR.qual,lev⟩
def Zl8:Stmt:=Zo 1 vnR.body
def vnT:Expr:=match Zl8 with | .For t _ _ _ _=>t | _=>.Name "" ⟨0,0,0,0⟩
def vnB:List Stmt:=match Zl8 with | .For _ _ b _ _=>b | _=>[]
theorem Z6G {ws:List Str}{i:Nat}(h:ws[i]?=some w):(ws.map MV.str)[i]?=some (.str w):=by rw [getElem?_map,h]; rfl
theorem Z37 (x y:Str):seq x y=decide (x=y):=by
 unfold seq;rw [Bool.eq_iff_iff,beq_iff_eq,decide_eq_true_eq];exact ⟨fun h=>by induction x using PySem.Str.casesOn;induction y using PySem.Str.casesOn;exact congrArg Str.mk (toList_inj.mp h),fun h=>by rw [h]⟩
theorem Z8I {ws:List Str}(hz:ws.length<9000)(n1:L≠it)(n2:L≠l)(n3:it≠l):∀ (m k:Nat)(fm:List (Str×MV))(st:St),ws.length=2*k+2*m→Jv name (ws.drop (2*k))=some v →
  Has st L (.frame fm)→Z2 "words" fm=some (.ref l)→Z2 "name" fm=some (.str name)→Has st l (.list (ws.map .str))→Has st it (.itRange (2*k:Nat) m 2) →
  ∃ st',Run (Z1 nt orc) (.forl vnT it vnB (vnE L lev)) st (.ret (.str v)) st'∧st'.n=st.n∧Le [L,it] st st'
 | 0,k,fm,st,hw,ha,_,_,_,_,_=>by
  rw [drop_eq_nil_iff.mpr (by omega)] at ha
  cases ha
 | m+1,k,fm,st,hw,ha,hL,f1,f2,hl,hi=>by
  obtain ⟨a,e1⟩:=(⟨_,getElem?_eq_getElem (by omega)⟩:∃ a,ws[2*k]?=some a);obtain ⟨b,e2⟩:=(⟨_,getElem?_eq_getElem (by omega)⟩:∃ b,ws[2*k+1]?=some b);have hd:ws.drop (2*k)=a::b::ws.drop (2*(k+1)):=by
   obtain ⟨h1,e1⟩:=List.getElem?_eq_some_iff.mp e1;obtain ⟨h2,e2⟩:=List.getElem?_eq_some_iff.mp e2;rw [List.drop_eq_getElem_cons h1,e1,List.drop_eq_getElem_cons h2,e2];rfl
  rw [hd] at ha;have hx:∀ ro,Zy (Z1 nt orc) ro st it=some (some (.int (2*k:Nat)),st.put it (.itRange ((2*k:Nat)+2) m 2)):=fun ro=>by
   unfold Zy;rw [hi.2]
  let fm':=Zh "at" (.int (2*k:Nat)) fm
  let st2:=(st.put it (.itRange ((2*k:Nat)+2) m 2)).put L (.frame fm')
  have hL1:Has (st.put it (.itRange ((2*k:Nat)+2) m 2)) L (.frame fm):=hL.put n1;have hL2:Has st2 L (.frame fm'):=Has.put_same hL.1;have hl2:Has st2 l (.list (ws.map .str)):=(hl.put (Ne.symm n3)).put (Ne.symm n2);have hi2:Has st2 it (.itRange ((2*k:Nat)+2) m 2):=(Has.put_same hi.1).put (Ne.symm n1);have f1':Z2 "words" fm'=some (.ref l):=by rw [Z1D (by decide +kernel)]; exact f1
  have f2':Z2 "name" fm'=some (.str name):=by rw [Z1D (by decide +kernel)]; exact f2
  have f3':Z2 "at" fm'=some (.int (2*k:Nat)):=Z33 _;have W:∀ p,Run (Z1 nt orc) (.ex (.Name "words" p) (vnE L lev)) st2 (.v (.ref l)) st2:=fun p=>Za hL2 ∅ ∅ f1' ∅;have N:∀ p,Run (Z1 nt orc) (.ex (.Name "name" p) (vnE L lev)) st2 (.v (.str name)) st2:=fun p=>Za hL2 ∅ ∅ f2' ∅;have A:∀ p,Run (Z1 nt orc) (.ex (.Name "at" p) (vnE L lev)) st2 (.v (.int (2*k:Nat))) st2:=fun p=>Za hL2 ∅ ∅ f3' ∅
  have G1:∀ ro,YD (Z1 nt orc) ro st2 (.ref l) (.int (2*k:Nat))=some (.str a):=Yt hl2 (JQ (Z6G e1) (by omega));have G2:∀ ro,YD (Z1 nt orc) ro st2 (.ref l) (.int ((2*k:Nat)+1))=some (.str b):=Yt hl2 (JQ (i:=2*k+1) (Z6G e2) (by omega));have le2:Le [L,it] st st2:=(Le.put (by simp)).trans (Le.put (by simp));by_cases q:a=name
  ·have hb:b=v:=by
    exact W0g ((show (match decide (a=name) with | true=>some b | false=>Jv name _)=some b by rw [decide_eq_true q]).symm.trans ha)
   refine ⟨st2,Z2Z hx rfl (ZH hL1 ∅ ∅ rfl) (Y5 (Y8 (d:=true) (ZJ rfl (Yz rfl (W _) (A _) G1) (N _) (fun ro=>?_)) (Y5 (YA (Yz rfl (W _) (Yd (A _) (Z4 rfl) fun ro=>rfl) (hb▸G2)))))),rfl,le2⟩;show some (seq a name)=some true;rw [Z37,decide_eq_true q]
  ·have ha':Jv name (ws.drop (2*(k+1)))=some v:=by
    exact (show (match decide (a=name) with | true=>some b | false=>Jv name _)=_ by rw [decide_eq_false q]).symm.trans ha
   have hi2':Has st2 it (.itRange (2*(k+1):Nat) m 2):=by
    have:((2*(k+1):Nat):Int)=(2*k:Nat)+2:=by omega
    rw [this]; exact hi2
   (refine xEAA (Z8I hz n1 n2 n3 m (k+1) fm' st2 (by omega) ha' hL2 f1' f2' hl2 hi2') ?_;intro st' r rn rl)
   refine ⟨st',QM hx rfl (ZH hL1 ∅ ∅ rfl) (JP (Y8 (d:=false) (ZJ rfl (Yz rfl (W _) (A _) G1) (N _) (fun ro=>?_)) Ye)) r,rn,le2.trans rl⟩;show some (seq a name)=some false;rw [Z37,decide_eq_false q]
def ntR (nt:List Stmt):ZF:={ Z8 (Ze 2) [] 27 "names_told" with body:=nt }
theorem Zap:ofString " "=⟨#[32]⟩:=∅
theorem Z8D (hn:nt=[.Return (some (.Constant (.str ⟨l.toArray⟩) k p)) q])(h294:(YZ 32 l).length=294)(hz:l.length≤1000000)(hne:l≠[])(ha:Jv name (YZ 32 l)=some v) :
  ∃ st',Run (Z1 nt orc) (.call (.old 35) [.str name] (lev+2)) st (.v (.str v)) st'∧st'.n=st.n+5∧Le [] st st':=by
 let ws:=YZ 32 l
 let st0:=st.push (.frame [("name",.str name)])
 let st1:=st0.push (.frame [])
 let st2:=st1.push (.list (ws.map .str))
 let st3:=st2.put st.n (.frame [("name",.str name),("words",.ref (st.n+2))])
 let st4:=st3.push (.rng 0 294 2)
 let st5:=st4.push (.itRange 0 147 2)
 have t1:Run (Z1 nt orc) (.call (.old 28) [] (lev+1)) st0 (.v (.str ⟨l.toArray⟩)) st1:=by
  refine Ju (r:=ntR nt) (o:=.ret (.str ⟨l.toArray⟩)) rfl rfl ∅ ∅ ∅ rfl ?_ rfl;show Run _ (.sts nt _) _ _ _;rw [hn];exact Y5 (YA (Z4 rfl))
 have sp:Txt.split ⟨l.toArray⟩ (ofString " ")=ws:=by rw [Zap]; exact Z73 32 l (by decide) hne
 have t2:Run (Z1 nt orc) (.call (.bi .split) [.str ⟨l.toArray⟩,.str " "] (lev+1)) st1 (.v (.ref (st.n+2))) st2:=by
  refine YY fun ro=>?_;show (match XW (ofString " ")&&ble (Txt.split ⟨l.toArray⟩ (ofString " ")).length 1000000,Yv ⟨l.toArray⟩ with
   | true,true=>st1.alloc (.list ((Txt.split ⟨l.toArray⟩ (ofString " ")).map .str)) fun k st=>some (.v (.ref k),st)
   | _,_=>none)=_
  have e1:XW (ofString " ")=true:=by kernel_rfl
  have e2:Yv ⟨l.toArray⟩=true:=ble_eq_true_of_le (by show l.toArray.size≤1000000;simpa using hz);have e3:ble ws.length 1000000=true:=by rw [h294]; rfl
  rw [sp,e1,e2,e3];rfl
 have hL0:Has st0 st.n (.frame [("name",.str name)]):=Has.new;have hL2:Has st2 st.n (.frame [("name",.str name)]):=hL0.push.push;have hl2:Has st2 (st.n+2) (.list (ws.map .str)):=Has.new;have hL3:Has st3 st.n (.frame [("name",.str name),("words",.ref (st.n+2))]):=Has.put_same hL2.1;have hl3:Has st3 (st.n+2) (.list (ws.map .str)):=hl2.put (by omega);have hl5:Has st5 (st.n+2) (.list (ws.map .str)):=hl3.push.push
 have hL5:Has st5 st.n (.frame [("name",.str name),("words",.ref (st.n+2))]):=hL3.push.push;have hi5:Has st5 (st.n+4) (.itRange ((2*0:Nat):Int) 147 2):=Has.new;have hlen:Run (Z1 nt orc) (.call (.bi .len) [.ref (st.n+2)] (lev+1)) st3 (.v (.int 294)) st3:=by
  have:=Z7S (T:=Z1 nt orc) (lev:=lev+1) hl3 (by rw [length_map,h294]; decide)
  rwa [length_map,h294] at this
 (refine xEAA (Z8I (nt:=nt) (orc:=orc) (lev:=lev+1) (ws:=ws) (name:=name) (v:=v) (by show (YZ 32 l).length<9000;omega) (L:=st.n) (it:=st.n+4) (l:=st.n+2) (by omega) (by omega) (by omega) 147 0 _ st5 h294 ha hL5 ∅ ∅ hl5 hi5) ?_;intro st' r rn rl)
 refine ⟨st',?_,rn,?_⟩
 ·refine Ju (r:=vnR) (o:=.ret (.str v)) rfl rfl ∅ ∅ ∅ rfl ?_ rfl;refine ZV (st1:=st3) (Y3 rfl (Z42 (a:=.str ⟨l.toArray⟩) (f:=.bi .split) rfl rfl rfl rfl (Zp rfl rfl rfl (Zf (v:=.old 28) ∅ ∅ ∅ ∅) YX t1) (fun ro=>∅) rfl (Z9 (Z4 rfl)) t2) ?_) ?_
  ·exact ZH hL2 ∅ ∅ ∅
  ·refine Y5 (Z8L (a:=.ref (st.n+3)) (st1:=st4) (st2:=st5) rfl (Zp rfl rfl rfl (Zf (v:=.bi .range) ∅ ∅ ∅ ∅) (Zb (Z4 rfl) (Zb (v:=.int 294) (Zp rfl rfl rfl (Zf (v:=.bi .len) ∅ ∅ ∅ ∅) (Z9 (Za hL3 ∅ ∅ ∅ ∅)) hlen) (Z9 (Z4 rfl)))) (YY fun ro=>?_)) (fun ro=>?_) r)
   ·rfl
   ·exact (Z66 (a:=0) (b:=294) (c:=2) Has.new ∅ ∅)
 ·have h1:Le [] st st0:=Le.push;exact ((h1.trans (Le.push.trans Le.push)).then (M':=[st.n]) (Le.put (by simp)) (by simp)).trans (Le.push.trans Le.push) |>.then rl (by simp)
noncomputable def Zky:List (Str×Str):=[("red","ff0000"),("blue","0000ff"),("black","000000")]
noncomputable def Zj5 (t:Str):List (Str×Str)→Option Str
 | []=>none
 | (k,v)::r=>match Qk k t with | true=>some v | false=>Zj5 t r
theorem Z3T:∀ {l:List (Str×Str)},Zj5 t l=some v→(t,v)∈l
 | [],h=>by cases h
 | (k,p)::r,h=>mB (b:=Qk k t) (X:=some p) (Y:=Zj5 t r) h (fun h1 e=>by
   cases e
   rw [← Z2y h1];exact W0d) fun u0 e=>W0e _ (Z3T e)
noncomputable def Zm2 (st:St)(k:Nat):St:=⟨st.n+k,st.t⟩
theorem Z5k (h:Z0 c T (.call f args lev) st (.v v) st')(hn:st'.n=st.n+k)(hl:Le [] st st'):Z0 c T (.call f args lev) st (.v v) (Zm2 st k) :=
 Z2U fun ρ s R=>Z1W (st1:=st') hn (fun ρ' s' R'=>Rel.less R' hn.symm fun i o e=>by
  have e:st.get i=some o:=e;rw [hl.2 i (R.at_ i o e).1 (by simp)]; exact e) h
def vnO:Orc:=fun f args lev st=>Xu 35 2 f lev (g1 args fun x=>gS x fun t=>gO (Zj5 t Zky) fun v=>some (.v (.str v),Zm2 st 5))
theorem vnA (hn:Yg nt):Je nt vnO:=by
 intro c o W f args lev st r st' e
 (refine xEEEEAAAA hn ?_;(try clear hn);intro k p q l h1 h2 h3 h4 o0;refine xAA o0 ?_;clear o0;intro h5 h6 h7)
 refine Z25 e ?_;clear e;intro oq hl e;subst oq;refine Zej e ?_;clear e;intro x oq e;subst oq;refine Xj e ?_;clear e;intro t oq e;subst oq;refine Xv e ?_;clear e;intro v g3 e
 cases e
 (refine xE (Nat.exists_eq_add_of_le' hl) ?_;intro lev o1;subst o1)
 have hm:=Z3T g3
 (first | delta Zky at hm | unfold Zky at hm)
 simp only [mem_cons,not_mem_nil,or_false,Prod.mk.injEq] at hm;rcases hm with ⟨rfl,rfl⟩ | ⟨rfl,rfl⟩ | ⟨rfl,rfl⟩
 ·(refine xEAA (Z8D (orc:=o) (st:=st) (lev:=lev) h1 h2 h3 h4 h5) ?_;intro st' r rn rl);exact Z5k (r c W) rn rl
 ·(refine xEAA (Z8D (orc:=o) (st:=st) (lev:=lev) h1 h2 h3 h4 h6) ?_;intro st' r rn rl);exact Z5k (r c W) rn rl
 ·(refine xEAA (Z8D (orc:=o) (st:=st) (lev:=lev) h1 h2 h3 h4 h7) ?_;intro st' r rn rl);exact Z5k (r c W) rn rl
end
noncomputable abbrev Zmz:List Stmt:=PySem.Challenge.rw_on0253_01.row.prog.main.body
noncomputable abbrev lk0:Look:={ strict:=false,foot:=none,bare:=[] }
noncomputable def Zma (nm:Str)(sc:Scope)(b:Str)(pos p p':Pos)(k:Nat)(s:Str):Stmt:=.FunctionDef nm ⟨[],[],none,[],[],none,[]⟩ [.Return (some (.Constant (.str s) k p)) p'] [] none [] sc none b pos
def st2:Stmt:=(Zmz[2]?).getD (.Pass ⟨0,0,0,0⟩)
noncomputable def nm2:Stmt→Str
 | .FunctionDef n _ _ _ _ _ _ _ _ _=>n
 | _=>""
noncomputable def sc2:Stmt→Option Scope
 | .FunctionDef _ _ _ _ _ _ sc _ _ _=>some sc
 | _=>none
noncomputable def b2T:Stmt→Str
 | .FunctionDef _ _ _ _ _ _ _ _ b _=>b
 | _=>""
noncomputable def Zmp:Stmt→Pos
 | .FunctionDef _ _ _ _ _ _ _ _ _ p=>p
 | _=>⟨0,0,0,0⟩
noncomputable def bd2:Stmt→List Stmt
 | .FunctionDef _ _ b _ _ _ _ _ _ _=>b
 | _=>[]
noncomputable def Zll:List Stmt→Option (Expr×Pos)
 | .Return (some e) p::_=>some (e,p)
 | _=>none
noncomputable def Zlp:Option (Expr×Pos)→Option (Const×Nat×Pos)
 | some (.Constant c k p,_)=>some (c,k,p)
 | _=>none
noncomputable def Zm9:Option (Const×Nat×Pos)→Option Str
 | some (.str s,_)=>some s
 | _=>none
noncomputable def pp2:Option (Expr×Pos)→Pos
 | some (_,p)=>p
 | _=>⟨0,0,0,0⟩
noncomputable def k2T:Option (Const×Nat×Pos)→Nat
 | some (_,k,_)=>k
 | _=>0
noncomputable def p2T:Option (Const×Nat×Pos)→Pos
 | some (_,_,p)=>p
 | _=>⟨0,0,0,0⟩
noncomputable def ZjG:List Nat→Bool
 | []=>true
 | c::r=>match ble c 122 with
  | true=>(match beq c 32 with
   | true=>ZjG r
   | false=>(match ble 48 c with
    | true=>ZjG r
    | false=>false))
  | false=>false
theorem Z3m:∀ {l:List Nat},ZjG l=true→∀ c∈l,c≤122∧(c=32∨48≤c)
 | [],_,_,hc=>nomatch hc
 | a::r,h,c,hc=>by
  unfold ZjG at h
  cases h1:ble a 122 using Bool.casesOn with
  | false=>rw [h1] at h;cases h
  | true =>
   rw [h1] at h;have h1:=W06 h1
   cases h2:beq a 32 using Bool.casesOn with
   | true =>
    rw [h2] at h;have h2:=W09 h2;rcases W0i hc with rfl | hc
    ·exact ⟨h1,.inl h2⟩
    ·exact Z3m h c hc
   | false =>
    rw [h2] at h
    cases h3:ble 48 a using Bool.casesOn with
    | false=>rw [h3] at h;cases h
    | true =>
     rw [h3] at h;have h3:=W06 h3;rcases W0i hc with rfl | hc
     ·exact ⟨h1,.inr h3⟩
     ·exact Z3m h c hc
def Zih (s:Str):Bool:=match blt 100 s.cps.size with
 | true=>(match s.cps.toList with
  | a::r=>(match beq a 97 with
   | true=>ZjG r
   | false=>false)
  | []=>false)
 | false=>false
theorem Z17 (lk:Look):∀ a b:List Stmt,noRoadLSs lk (a++b)=(noRoadLSs lk a&&noRoadLSs lk b)
 | [],b=>rfl
 | s::a,b=>by
  show (noRoadLS lk s&&noRoadLSs lk (a++b))=((noRoadLS lk s&&noRoadLSs lk a)&&noRoadLSs lk b)
  rw [Z17 lk a b,Bool.and_assoc]
theorem Z5Q:frameAttrs.all (fun n=>blt n.cps.size 50)=true:=by decide +kernel
theorem Za1 (h:Zih s=true):Look.str (Look.out (Look.inDef { strict:=false,foot:=none,bare:=[] })) s=true:=by
 obtain ⟨⟨l⟩⟩:=s;unfold Zih at h
 cases hl:blt 100 (Array.mk l).size using Bool.casesOn with
 | false=>simp only [hl] at h;cases h
 | true =>
 simp only [hl] at h
 cases l using List.casesOn with
 | nil=>cases h
 | cons a r =>
 simp only at h
 cases ha:beq a 97 using Bool.casesOn with
 | false=>rw [ha] at h;cases h
 | true =>
 rw [ha] at h;have ha:=W09 ha;subst ha;have hall:∀ c∈(97::r:List Nat),c≤122∧(c=32∨48≤c):=by
  intro c hc;rcases W0i hc with rfl | hc
  ·omega
  ·exact Z3m h c hc
 have hl:100<(Array.mk (97::r)).size:=W06 hl;have hc:frameAttrs.contains ⟨⟨97::r⟩⟩=false:=by
  cases hq:frameAttrs.contains ⟨⟨97::r⟩⟩ using Bool.casesOn with
  | false=>rfl
  | true =>
   have hm:=List.contains_iff_mem.mp hq;have:=all_eq_true.mp Z5Q _ hm;have:(Array.mk (97::r)).size<50:=W06 this;omega
 have ho:Str.opensWith ⟨⟨97::r⟩⟩ "__"=false:=by
  unfold Str.opensWith;have e:(PySem.Str.ofString "__")=⟨#[95,95]⟩:=by decide +kernel
  rw [e]
  cases r using List.casesOn with
  | nil=>simp at hl
  | cons b l=>simp
 have hr:roadStr ⟨⟨97::r⟩⟩=false:=by
  unfold roadStr;have h1:(Array.mk (97::r)).any (fun c=>c==123||c==125)=false:=by
   rw [← Array.any_toList,List.any_eq_false];intro c hc;have:=hall c hc;simp only [or_eq_true,beq_iff_eq];omega
  have h2:(Array.mk (97::r)).any (·==46)=false:=by
   rw [← Array.any_toList,List.any_eq_false];intro c hc;have:=hall c hc;simp only [beq_iff_eq];omega
  rw [h1,h2]; rfl
 have hat:attrL ⟨⟨97::r⟩⟩=true:=by
  unfold attrL;rw [hc,ho]; rfl
 unfold Look.str Look.word;rw [hat,hr];simp [Look.out,Look.inDef]
theorem ZbN (h:Look.str (Look.out (Look.inDef lk0)) s=true):noRoadLS lk0 (Zma nm sc b pos p p' k s)=true:=by
 show (((((Look.str (Look.out (Look.inDef lk0)) s)&&true)&&noRoadLs lk0 [])&&noRoadLOpt lk0 none)&&noRoadLTps lk0 [])=true
 rw [h]; rfl
theorem ZfR:(importedModules Zmz).all cThrough.contains=true:=∅
theorem ZfW:((["vars","dir","locals"]:List Str).filter (readsOut PySem.Challenge.rw_on0253_01.row.prog Zmz)).isEmpty=true:=∅
theorem ZfQ:noRoadLSs { strict:=false,foot:=none,bare:=[] } (Zmz.drop 3)=true:=∅
theorem ZfK:noRoadLSs { strict:=false,foot:=none,bare:=[] } (Zmz.take 2)=true:=∅
def s2:Str:=(Zm9 (Zlp (Zll (bd2 st2)))).getD ""
theorem ZfV:Zmz[2]?=some (Zma (nm2 st2) ((sc2 st2).getD ⟨.module,[],false,false,[]⟩) (b2T st2) (Zmp st2) (p2T (Zlp (Zll (bd2 st2)))) (pp2 (Zll (bd2 st2))) (k2T (Zlp (Zll (bd2 st2)))) s2):=∅
def ntC (l:List Nat):Bool:=beq (YZ 32 l).length 294&&ble l.length 1000000&&!l.isEmpty&&decide (Jv "red" (YZ 32 l)=some "ff0000")&&decide (Jv "blue" (YZ 32 l)=some "0000ff")&&decide (Jv "black" (YZ 32 l)=some "000000")
theorem Zdz:∃ s,Zm9 (Zlp (Zll (bd2 st2)))=some s∧(Zih s&&ntC s.cps.toList)=true:=by
 refine ⟨_,rfl,?_⟩
 k_qdec
theorem ZfZ:Zih s2=true :=
 xEA Zdz fun s h1 h2=>Eq.mpr (congrArg (fun o=>Zih (Option.getD o "")=true) h1) (W0h h2).1
theorem Z6Z {st:Stmt}(h4:noRoadLSs lk0 (b.take 2)=true)(h3:noRoadLSs lk0 (b.drop 3)=true)(hb:b[2]?=some st)(h:noRoadLS lk0 st=true):noRoadLSs lk0 b=true:=by
 have e:b=b.take 2++([st]++b.drop 3):=by
  obtain ⟨h2,hg2⟩:=List.getElem?_eq_some_iff.mp hb;rw [← hg2];show b=b.take 2++(b[2]::b.drop 3);rw [← List.drop_eq_getElem_cons h2,List.take_append_drop]
 rw [e,Z17,Z17,h4,h3];show (true&&((noRoadLS _ st&&true)&&true))=true;rw [h]; rfl
theorem Zc3 (h1:a=true)(h2:l.isEmpty=true)(h:noRoadLSs { strict:=false,foot:=none,bare:=[] } b=true) :
  noRoadLSs { strict:=!a,foot:=none,bare:=l } b=true:=by
 subst h1;rw [List.isEmpty_iff.mp h2];exact h
theorem Zbw:noRoadLSs { strict:=!(importedModules PySem.Challenge.rw_on0253_01.row.prog.main.body).all cThrough.contains,foot:=none,bare:=(["vars","dir","locals"]:List Str).filter (readsOut PySem.Challenge.rw_on0253_01.row.prog PySem.Challenge.rw_on0253_01.row.prog.main.body) } PySem.Challenge.rw_on0253_01.row.prog.main.body=true :=
 Zc3 ZfR ZfW (Z6Z ZfK ZfQ ZfV (ZbN (Za1 ZfZ)))
theorem Znv:namesResolve PySem.Challenge.rw_on0253_01.row.prog=true:=∅
theorem Znp:(namesMeet PySem.Challenge.rw_on0253_01.row.prog PySem.Challenge.rw_on0253_01.row.prog.main.body fun u0 n=>attrL n)=true:=∅
theorem wsT:PySem.Challenge.rw_on0253_01.wellSaid=true:=by
 unfold OpenLaw.wellSaid OpenRow.wellSaid OpenRow.partSaid looksOpen
 repeat' with_reducible refine look_both ?_ ?_
 all_goals first | with_reducible exact Zbw | with_reducible exact Znv | with_reducible exact Znp | kernel_rfl
noncomputable def YL:Nat→Option Str
 | 0=>none | 1=>some "0" | 2=>some "50%" | 3=>some "1.5" | 4=>some "-1" | _=>some "0.25"
noncomputable def ZW:Nat→Option Str
 | 0=>some "red" | 1=>some "#0f0" | 2=>none | _=>some "currentColor"
noncomputable def opT:Nat→Option Str
 | 0=>none | 1=>some "0.5" | 2=>some "0" | _=>some "7"
noncomputable def Zin:Nat→Int×Int
 | 0=>(0,1) | 1=>(0,1) | 2=>(1,2) | 3=>(1,1) | 4=>(0,1) | _=>(1,4)
noncomputable def ZjV:Nat→Int×Int×Int
 | 0=>(255,0,0) | 1=>(0,255,0) | 2=>(0,0,0) | _=>(0,0,255)
noncomputable def Ym:Nat→Int
 | 0=>255 | 1=>128 | 2=>0 | _=>255
noncomputable def ent (k:Str):Option Str→List (Str×MV)
 | none=>[] | some v=>[(k,.str v)]
def ZX (o c p:Option Str):List (Str×MV):=((ofString "color"),MV.str "blue")::(ent "offset" o++(ent "stop-color" c++ent "stop-opacity" p))
noncomputable def lkV (col c p:Str):List (Str×MV):=[("fill",.str "black"),("fill-rule",.str "nonzero"),("fill-opacity",.str "1"),("stroke",.str "none"),("stroke-width",.str "1"),("stroke-linecap",.str "butt"),("stroke-linejoin",.str "miter"),("stroke-miterlimit",.str "4"),("stroke-dasharray",.str "none"),("stroke-dashoffset",.str "0"),("stroke-opacity",.str "1"),("clip-rule",.str "nonzero"),("color",.str col),("font-size",.str "16"),("font-family",.str ""),("text-anchor",.str "start"),("visibility",.str "visible"),("opacity",.str "1"),("display",.str "inline"),("clip-path",.str "none"),("mask",.str "none"),("stop-color",.str c),("stop-opacity",.str p),("mix-blend-mode",.str "normal")]
noncomputable def elD (nm:Str)(a c:Nat):MObj:=.dict [("name",.str nm),("attributes",.ref a),("children",.ref c),("text",.str "")]
def YM (es vs:List (Str×MV)):List (Option MObj):=[some (.inst 501 1),some (elD "stop" 2 3),some (.dict es),none,some (.inst 403 5),some (.dict [("values",.ref 6)]),some (.dict vs)]
def T1 (nt:List Stmt):Tab:=Z1 nt (ZiE ZlC vnO)
def ZiM (nt:List Stmt)(t:Str)(r g b:Int)(k n:Nat):Prop:=ZM (T1 nt) 300 (.call (.old 254) [.str t] 6) [] 0 [k] (.v (.ref k)) n [] [some (.tup [.int r,.int g,.int b])]
noncomputable def colTab:List (Str×Int×Int×Int):=[("red",255,0,0),("#0f0",0,255,0),("blue",0,0,255),("black",0,0,0)]
theorem ZdP (nt:List Stmt):ZiM nt "red" 255 0 0 18 19∧ZiM nt "#0f0" 0 255 0 16 17∧ZiM nt "blue" 0 0 255 18 19∧ZiM nt "black" 0 0 0 18 19 :=
 ⟨⟨∅,∅⟩,⟨∅,∅⟩,⟨∅,∅⟩,⟨∅,∅⟩⟩
theorem Zcu (nt:List Stmt):∀ e∈colTab,∃ k n,ZiM nt e.1 e.2.1 e.2.2.1 e.2.2.2 k n:=by
 obtain ⟨h0,h1,h2,h3⟩:=ZdP nt;intro e he
 (first | delta colTab at he | unfold colTab at he)
 simp only [mem_cons,not_mem_nil,or_false] at he;rcases he with rfl | rfl | rfl | rfl
 ·exact ⟨_,_,h0⟩
 ·exact ⟨_,_,h1⟩
 ·exact ⟨_,_,h2⟩
 ·exact ⟨_,_,h3⟩
noncomputable def ZiA (t:Str):List (Str×Int×Int×Int)→Option (Int×Int×Int)
 | []=>none
 | (k,v)::r=>match Qk k t with | true=>some v | false=>ZiA t r
theorem Z3w:∀ {l:List (Str×Int×Int×Int)},ZiA t l=some v→(t,v)∈l
 | [],h=>by cases h
 | (k,p)::r,h=>mB (b:=Qk k t) (X:=some p) (Y:=ZiA t r) h (fun h1 e=>by
   cases e
   rw [← Z2y h1];exact W0d) fun u0 e=>W0e _ (Z3w e)
def Zm6:Orc:=fun f args lev st=>Xu 254 6 f lev (g1 args fun x=>gS x fun t=>gO (ZiA t colTab) fun p=>some (.v (.ref st.n),st.push (.tup [.int p.1,.int p.2.1,.int p.2.2])))
theorem T1G (hn:Yg nt):Y4 (T1 nt):=((Zfh nt).or (vnA hn)).g
theorem ZfX (hn:Yg nt):Je nt Zm6:=by
 intro c o W f args lev st r st' e;refine Z25 e ?_;clear e;intro oq hl e;subst oq;refine Zej e ?_;clear e;intro x oq e;subst oq;refine Xj e ?_;clear e;intro t oq e;subst oq;refine Xv e ?_;clear e;intro p h3 e
 cases e
 obtain ⟨k,n,hr⟩:=Zcu nt _ (Z3w h3);refine Z3i ?_ hl;have m:=Z2P (c:=c) (st:=st) (fl:=[]) W.orc (T1G hn) hr rfl trivial (by simp [Zj]);have e:Zl (gOf ([]:List Nat).length st.n [k] (idx [])) (.ref k) = .ref st.n:=congrArg MV.ref (Z4d 0 rfl);rw [e] at m;exact Z2V m
def ZlD (nt:List Stmt)(o:Option Str)(j k:Nat):Prop :=
 ZM (Z1 nt Y7) 300 (.call (.old 428) [.ref 0,.ref 4] 8) (YM (ZX o (ZW j) (opT k)) (lkV "black" "black" "1")) 7 [47,51,52] (.v (.ref 52)) 54 (YM (ZX o (ZW j) (opT k)) (lkV "black" "black" "1"))
  [some (.dict (lkV "blue" ((ZW j).getD "black") ((opT k).getD "1"))),some (.dict [("values",.ref 47)]),some (.inst 403 51)]
abbrev lkP (nt:List Stmt)(o:Option Str)(j:Nat):Prop:=QW (fun k=>fin (ev (Z1 nt Y7) .nil 300 (.call (.old 428) [.ref 0,.ref 4] 8) (mkS (YM (ZX o (ZW j) (opT k)) (lkV "black" "black" "1")))) 7 [47,51,52]) 4 =
  QX (fun k=>some (Out.v (.ref 52),54,YM (ZX o (ZW j) (opT k)) (lkV "black" "black" "1"),[some (.dict (lkV "blue" ((ZW j).getD "black") ((opT k).getD "1"))),some (.dict [("values",.ref 47)]),some (.inst 403 51)])) 4
theorem Zny (nt:List Stmt)(o:Option Str)(h:o=none∨∃ t,o=some t):lkP nt o 0:=by
 rcases h with rfl | ⟨t,rfl⟩<;>kernel_rfl
theorem Znx (nt:List Stmt)(o:Option Str)(h:o=none∨∃ t,o=some t):lkP nt o 1:=by
 rcases h with rfl | ⟨t,rfl⟩<;>kernel_rfl
theorem Znq (nt:List Stmt)(o:Option Str)(h:o=none∨∃ t,o=some t):lkP nt o 2:=by
 rcases h with rfl | ⟨t,rfl⟩<;>kernel_rfl
theorem Znw (nt:List Stmt)(o:Option Str)(h:o=none∨∃ t,o=some t):lkP nt o 3:=by
 rcases h with rfl | ⟨t,rfl⟩<;>kernel_rfl
theorem Zet (o:Option Str)(h:o=none∨∃ t,o=some t):QY (fun j k=>Yi 7 54 (YM (ZX o (ZW j) (opT k)) (lkV "black" "black" "1")) (YM (ZX o (ZW j) (opT k)) (lkV "black" "black" "1")) [some (.dict (lkV "blue" ((ZW j).getD "black") ((opT k).getD "1"))),some (.dict [("values",.ref 47)]),some (.inst 403 51)] [47,51,52]&&Qf (pOf 7 [47,51,52]) (.v (.ref 52))) 4 4=QZ (fun u0 u0=>true) 4 4:=by
 rcases h with rfl | ⟨t,rfl⟩<;>kernel_rfl
theorem Zfm (nt:List Stmt)(o:Option Str)(j k:Nat)(hj:j<4)(hk:k<4):ZlD nt o j k:=by
 have h:o=none∨∃ t,o=some t:=by cases o using Option.casesOn with
  | none=>exact .inl rfl
  | some t=>exact .inr ⟨t,rfl⟩
 exact ⟨XN (lt4 (P:=lkP nt o) (Zny nt o h) (Znx nt o h) (Znq nt o h) (Znw nt o h) j hj) k hk,XO (Zet o h) hj hk⟩
def T2 (nt:List Stmt):Tab:=Z1 nt (ZiE ZlC Zm6)
theorem T2G (hn:Yg nt):Y4 (T2 nt):=((Zfh nt).or (ZfX hn)).g
def YB (i j k:Nat):List (Option MObj):=YM (ZX (YL i) (ZW j) (opT k)) (lkV "blue" ((ZW j).getD "black") ((opT k).getD "1"))
def YN (i:Nat):MObj:=.tup [.int (Zin i).1,.int (Zin i).2]
def J0 (j:Nat):MObj:=.tup [.int (ZjV j).1,.int (ZjV j).2.1,.int (ZjV j).2.2]
def ZjI (nt:List Stmt)(i j k:Nat)(a b r n:Nat):Prop :=
 ZM (T2 nt) 300 (.call (.old 454) [.ref 0,.ref 4] 8) (YB i j k) 7 [a,b,r] (.v (.ref r)) n (YB i j k) [some (YN i),some (J0 j),some (.tup [.ref a,.ref b,.int (Ym k)])]
def ZjD (nt:List Stmt)(i j k:Nat)(b r n:Nat):Prop :=
 ZM (T2 nt) 300 (.call (.old 454) [.ref 0,.ref 4] 8) (YB i j k) 7 [b,r] (.v (.ref r)) n (YB i j k) [some (J0 j),some (.tup [.old 104,.ref b,.int (Ym k)])]
noncomputable def iA (p:Nat):Nat:=match p with | 4=>5 | _=>p
noncomputable def aQ (i:Nat):Nat:=match i with | 3=>20 | _=>11
noncomputable def rQ (i k:Nat):Nat:=(match i with | 3=>40 | _=>39)+k % 2
abbrev Zd2 (nt:List Stmt)(p:Nat):Prop:=QY (fun j k=>fin (ev (T2 nt) .nil 300 (.call (.old 454) [.ref 0,.ref 4] 8) (mkS (YB (iA p) j k))) 7 [aQ (iA p),9,rQ (iA p) k]) 4 4 =
  QZ (fun j k=>some (Out.v (.ref (rQ (iA p) k)),rQ (iA p) k+1,YB (iA p) j k,[some (YN (iA p)),some (J0 j),some (.tup [.ref (aQ (iA p)),.ref 9,.int (Ym k)])])) 4 4
theorem ZeZ (nt:List Stmt):Zd2 nt 0:=∅
theorem Znl (nt:List Stmt):Zd2 nt 1:=∅
theorem Znk (nt:List Stmt):Zd2 nt 2:=∅
theorem Znm (nt:List Stmt):Zd2 nt 3:=∅
theorem Zfj (nt:List Stmt):Zd2 nt 4:=∅
theorem Zda:Zjs (fun p j k=>Yi 7 (rQ (iA p) k+1) (YB (iA p) j k) (YB (iA p) j k) [some (YN (iA p)),some (J0 j),some (.tup [.ref (aQ (iA p)),.ref 9,.int (Ym k)])] [aQ (iA p),9,rQ (iA p) k]&&Qf (pOf 7 [aQ (iA p),9,rQ (iA p) k]) (.v (.ref (rQ (iA p) k)))) 5 4 4=Zji (fun u0 u0 u0=>true) 5 4 4:=∅
theorem Zcb (nt:List Stmt):QY (fun j k=>fin (ev (T2 nt) .nil 300 (.call (.old 454) [.ref 0,.ref 4] 8) (mkS (YB 4 j k))) 7 [9,35+k % 2]) 4 4 =
  QZ (fun j k=>some (Out.v (.ref (35+k % 2)),36+k % 2,YB 4 j k,[some (J0 j),some (.tup [.old 104,.ref 9,.int (Ym k)])])) 4 4:=∅
theorem Zcf:QY (fun j k=>Yi 7 (36+k % 2) (YB 4 j k) (YB 4 j k) [some (J0 j),some (.tup [.old 104,.ref 9,.int (Ym k)])] [9,35+k % 2]&&Qf (pOf 7 [9,35+k % 2]) (.v (.ref (35+k % 2)))) 4 4=QZ (fun u0 u0=>true) 4 4:=∅
theorem ZcR (nt:List Stmt)(i j k:Nat)(hi:i<6)(hj:j<4)(hk:k<4):(∃ a b r n,ZjI nt i j k a b r n)∨(Zin i=(0,1)∧∃ b r n,ZjD nt i j k b r n):=by
 have main:∀ p,p<5→Zd2 nt p→∃ a b r n,ZjI nt (iA p) j k a b r n:=fun p hp h=>⟨_,_,_,_,XO h hj hk,Z3j Zda hp hj hk⟩;exact lt6 (P:=fun i=>(∃ a b r n,ZjI nt i j k a b r n)∨(Zin i=(0,1)∧∃ b r n,ZjD nt i j k b r n)) (.inl (main 0 (by decide) (ZeZ nt))) (.inl (main 1 (by decide) (Znl nt))) (.inl (main 2 (by decide) (Znk nt))) (.inl (main 3 (by decide) (Znm nt))) (.inr ⟨rfl,_,_,_,XO (Zcb nt) hj hk,XO Zcf hj hk⟩) (.inl (main 4 (by decide) (Zfj nt))) i hi
def T3 (nt:List Stmt):Tab:=Z1 nt ZkE
noncomputable def Zm7 (a b:Int)(i j k:Int)(l:List (Int×Int)):List (Option MObj):=[some (.src a b ((6,i)::(4,j)::(4,k)::l))]
def Zl2 (a:Int):Int:=nxA (nxA (nxA a 6) 4) 4
def Zli (a b:Int):Int:=nxB (nxA (nxA a 6) 4) (nxB (nxA a 6) (nxB a b))
def Zlx (i j k:Nat)(p s:Nat):List (Option MObj):=[some (.dict (ZX (YL i) (ZW j) (opT k))),some (.list []),some (elD "stop" 35 39),some (.inst 501 36),some (YN i),some (J0 j),some (.tup [.ref p,.ref s,.int (Ym k)]),some (.tup [.ref 37,.ref 45])]
noncomputable def stQ (i j:Nat):List Nat:=[35,39,36,37,2+2*i,17+2*j,45,46]
def ZjQ (a b:Int)(l:List (Int×Int))(i j k:Nat):List (Option MObj):=Zm7 a b i j k l
def Zj8 (i j k:Nat):List (Option MObj):=Zlx i j k (2+2*i) (17+2*j)
abbrev stP (nt:List Stmt)(a b:Int)(l:List (Int×Int))(i:Nat):Prop:=QY (fun j k=>fin (ev (T3 nt) .nil 300 (.call (.old 570) [.ref 0] 4) (mkS (ZjQ a b l i j k))) 1 (stQ i j)) 4 4=QZ (fun j k=>some (Out.v (.ref 46),47,[some (.src (Zl2 a) (Zli a b) l)],Zj8 i j k)) 4 4
theorem Znt (nt:List Stmt)(a b:Int)(l:List (Int×Int)):stP nt a b l 0:=∅
theorem Zno (nt:List Stmt)(a b:Int)(l:List (Int×Int)):stP nt a b l 1:=∅
theorem Znu (nt:List Stmt)(a b:Int)(l:List (Int×Int)):stP nt a b l 2:=∅
theorem Znn (nt:List Stmt)(a b:Int)(l:List (Int×Int)):stP nt a b l 3:=∅
theorem Znr (nt:List Stmt)(a b:Int)(l:List (Int×Int)):stP nt a b l 4:=∅
theorem Zns (nt:List Stmt)(a b:Int)(l:List (Int×Int)):stP nt a b l 5:=∅
theorem ZeW (a b:Int)(l:List (Int×Int)):Zjs (fun i j k=>Yi 1 47 (ZjQ a b l i j k) [some (.src (Zl2 a) (Zli a b) l)] (Zj8 i j k) (stQ i j)&&Qf (pOf 1 (stQ i j)) (.v (.ref 46))) 6 4 4=Zji (fun u0 u0 u0=>true) 6 4 4:=∅
theorem ZeT (n s:Nat):Zjs (fun i j k=>((Zj8 i j k).map (Option.map (ZA (gOf 1 n (stQ i j) (idx [s])))),Zl (gOf 1 n (stQ i j) (idx [s])) (.ref 46))) 6 4 4=Zji (fun i j k=>([some (.dict (ZX (YL i) (ZW j) (opT k))),some (.list []),some (elD "stop" n (n+1)),some (.inst 501 (n+2)),some (YN i),some (J0 j),some (.tup [.ref (n+4),.ref (n+5),.int (Ym k)]),some (.tup [.ref (n+3),.ref (n+6)])],MV.ref (n+7))) 6 4 4:=∅
theorem T3G (nt:List Stmt):Y4 (T3 nt):=(ZdY nt).g
section
variable {T:Tab}{st:St}
theorem Zbo (O:Y4 T){os olds news:List (Option MObj)}(r:ZM T N (.call fn args lev) os fl.length new (.v v) n' olds news)
  (ha:(inV (below fl.length) fn&&args.all (inV (below fl.length)))=true) (hf:ZG st (idx fl) fl os) (hd:(Zj fl os).Nodup) :
  Run T (.call (Zl (idx fl) fn) (args.map (Zl (idx fl))) lev) st (.v (Zl (gOf fl.length st.n new (idx fl)) v)) (Ys st (gOf fl.length st.n new (idx fl)) fl os olds news):=by
 obtain ⟨hr,hc⟩:=r;have hc':=hc;rw [and_eq_true] at hc';intro c W
 (refine xEAAA (Z3U hr) ?_;intro st0' h1 h2 h3 h4)
 rw [and_eq_true] at ha;intro A ρ s E fv vs rm R hfv hvs;have hl:(mkS os).n=fl.length:=by rw [Xp,hf.len]
 have L:=Z2c (c:=c) hf hd hc'.1 h2 h3 h4 fun j o e=>(R.at_ j o e).1;have m:=Z2R W O h1 L.M (by rw [hl]; exact ha.1) (by rw [hl]; exact ha.2) (by rw [hl]; exact hc'.2) L.hn L.hnew L.cl L.hfr;rw [hl] at m;exact m A ρ s E fv vs rm R hfv hvs
end
def Zjw (st:St)(s:Nat)(a b:Int)(l:List (Int×Int))(i j k:Nat):St :=
 (((((((((st.put s (.src (Zl2 a) (Zli a b) l)).push (.dict (ZX (YL i) (ZW j) (opT k)))).push (.list [])).push (elD "stop" st.n (st.n+1))).push (.inst 501 (st.n+2))).push (YN i)).push (J0 j)).push (.tup [.ref (st.n+4),.ref (st.n+5),.int (Ym k)])).push (.tup [.ref (st.n+3),.ref (st.n+6)]))
noncomputable def ZkA:St→List (Option MObj)→St
 | st,[]=>st
 | st,o::r=>ZkA (Yx st o) r
theorem Z4Q (g:Nat→Nat):∀ (os:List (Option MObj))(st:St),Qi g st os=ZkA st (os.map (Option.map (ZA g)))
 | [],_=>rfl
 | o::r,st=>Z4Q g r (Yx st (o.map (ZA g)))
theorem Ze2 (nt:List Stmt){st:St}(i j k:Nat)(hi:i<6)(hj:j<4)(hk:k<4)(h:Has st s (.src a b ((6,i)::(4,j)::(4,k)::l))):Run (T3 nt) (.call (.old 570) [.ref s] 4) st (.v (.ref (st.n+7))) (Zjw st s a b l i j k):=by
 have r:=Zbo (fl:=[s]) (os:=ZjQ a b l i j k) (T3G nt) ⟨XO (lt6 (P:=stP nt a b l) (Znt nt a b l) (Zno nt a b l) (Znu nt a b l) (Znn nt a b l) (Znr nt a b l) (Zns nt a b l) i hi) hj hk,Z3j (ZeW a b l) hi hj hk⟩ rfl ⟨h,trivial⟩ (by simp [Zj,ZjQ,Zm7]);have e:=Z3j (ZeT st.n s) hi hj hk;have e1:Ys st (gOf 1 st.n (stQ i j) (idx [s])) [s] (ZjQ a b l i j k) [some (.src (Zl2 a) (Zli a b) l)] (Zj8 i j k)=Zjw st s a b l i j k :=
  (Z4Q _ _ _).trans (congrArg (ZkA (st.put s (.src (Zl2 a) (Zli a b) l))) (congrArg fst e))
 have e2:Out.v (Zl (gOf 1 st.n (stQ i j) (idx [s])) (.ref 46)) = .v (.ref (st.n+7)):=congrArg Out.v (congrArg Prod.snd e);exact e1▸e2▸r
def Zlc:Orc:=fun f args lev st=>Xu 570 4 f lev (g1 args fun x=>gR x fun s=>Zls (st.get s) fun a b q=>gHd q fun t1 i q=>gHd q fun t2 j q=>gHd q fun t3 k l =>
 gB (decide (t1=6)) (gB (decide (t2=4)) (gB (decide (t3=4)) (some (.v (.ref (st.n+7)),Zjw st s a b l i.toNat j.toNat k.toNat)))))
theorem ZeG (nt:List Stmt):Je nt Zlc:=by
 intro c o W f args lev st r st' e;refine Z25 e ?_;clear e;intro oq hl e;subst oq;refine Zej e ?_;clear e;intro x oq e;subst oq;refine Ze3 e ?_;clear e;intro s oq e;subst oq;refine Z8V e ?_;clear e;intro a b q h3 e;refine Z7L e ?_;clear e;intro t1 i q oq e;subst oq;refine Z7L e ?_;clear e;intro t2 j q oq e;subst oq;refine Z7L e ?_;clear e;intro t3 k l oq e;subst oq
 refine Js e ?_;clear e;intro h4 e;refine Js e ?_;clear e;intro h5 e;refine Js e ?_;clear e;intro h6 e
 cases e
 have h4:=of_decide_eq_true h4;have h5:=of_decide_eq_true h5;have h6:=of_decide_eq_true h6;subst h4 h5 h6;refine Z2U fun ρ s R=>Z3i ?_ hl
 (refine xAA (R.at_ _ _ h3) ?_;intro hlt o0 _;obtain ⟨_,_,_,_,hfut⟩:=o0)
 (refine xAAAAAAAA hfut ?_;(try clear hfut);intro _ _ _ hi _ _ _ hj o1;refine xAAAA o1 ?_;clear o1;intro _ _ _ hk _)
 have bi:=YV a b (t:=6) (by decide);have bj:=YV (nxA a 6) (nxB a b) (t:=4) (by decide);have bk:=YV (nxA (nxA a 6) 4) (nxB (nxA a 6) (nxB a b)) (t:=4) (by decide);rw [hi] at bi;rw [hj] at bj;rw [hk] at bk
 (refine xE (eq_ofNat_of_zero_le bi.1) ?_;intro i o2;subst o2)
 (refine xE (eq_ofNat_of_zero_le bj.1) ?_;intro j o3;subst o3)
 (refine xE (eq_ofNat_of_zero_le bk.1) ?_;intro k o4;subst o4)
 exact Z2V (Ze2 nt i j k (by omega) (by omega) (by omega) ⟨hlt,h3⟩ c W.orc)
section
variable {nt:List Stmt}{orc:Orc}{st:St}{lev:Nat}
def Zms:ZF:=Z8 (Ze 67) [] 562 "_law_one"
def JR (st:St)(s l:Nat)(a b t:Int)(rest:List (Int×Int)):St:=Yx ((st.push (.frame [("source",.ref s),("things",.ref l)])).put s (.src (nxA a t) (nxB a b) rest)) none
theorem Z5m (hs:Has st s (.src a b ((t,d)::rest)))(hl:Has st l (.list xs))(ht:t=xs.length)(h0:0<t)(h1:t<1000)(hd:0≤d)(hv:xs[d.toNat]?=some v) :
  Run (Z1 nt orc) (.call (.old 563) [.ref s,.ref l] (lev+2)) st (.v v) (JR st s l a b t rest):=by
 have hL:Has (st.push (.frame [("source",.ref s),("things",.ref l)])) st.n (.frame [("source",.ref s),("things",.ref l)]):=Has.new;have hs1:Has (st.push (.frame [("source",.ref s),("things",.ref l)])) s (.src a b ((t,d)::rest)):=hs.push;have hl1:Has (st.push (.frame [("source",.ref s),("things",.ref l)])) l (.list xs):=hl.push;have hne:l≠s:=hl.ne hs nofun;have hl2:Has (JR st s l a b t rest) l (.list xs):=by
  have:=hl1.put (o':=.src (nxA a t) (nxB a b) rest) hne
  refine ⟨W08 this.1,?_⟩;unfold JR;rw [Qh,if_neg (ne_of_lt this.1)];exact this.2
 have hln:xs.length≤1000000:=by omega
 have hdv:d=(d.toNat:Int):=(Int.toNat_of_nonneg hd).symm;refine Ju (r:=Zms) (o:=.ret v) rfl rfl ∅ ∅ ∅ rfl ?_ rfl;refine Y5 (YA (Yz (a:=.ref l) (b:=.int d) rfl (Za hL ∅ ∅ ∅ ∅) (Zp rfl rfl rfl (Zf (v:=.old 556) ∅ ∅ ∅ ∅) (Zb (Za (v:=.ref s) hL ∅ ∅ ∅ ∅) (Z9 (Zp rfl rfl rfl (Zf (v:=.bi .len) ∅ ∅ ∅ ∅) (Z9 (Za (v:=.ref l) hL ∅ ∅ ∅ ∅)) (Z7S hl1 hln)))) ?_) ?_))
 ·rw [← ht];exact fun c W=>Z5A W hs1.2 h0 h1
 ·rw [hdv];exact Yt hl2 (JQ hv (by have:=(List.getElem?_eq_some_iff.mp hv).1;omega))
def Zm1:Orc:=fun f args lev st=>Xu 563 2 f lev (g2 args fun x y=>gR x fun s=>gR y fun l=>Zls (st.get s) fun a b q=>gHd q fun t d rest=>Zly (st.get l) fun xs=>gO (XV xs) fun ss =>
 gB (decide (t=ss.length)) (gB (decide (0<t)) (gB (decide (t<1000)) (some (.v (.str (ss.getD d.toNat "")),JR st s l a b t rest)))))
theorem Z4W:∀ {xs:List MV}{ss:List Str},XV xs=some ss→xs=ss.map .str
 | [],ss,h=>by cases h;rfl
 | .str x::r,ss,h=>by
  (refine xEA (map_eq_some_iff.mp h) ?_;intro q hq o0;subst o0)
  rw [Z4W hq]; rfl
 | .none::_,_,h=>by cases h
 | .bool _::_,_,h=>by cases h
 | .int _::_,_,h=>by cases h
 | .ref _::_,_,h=>by cases h
 | .old _::_,_,h=>by cases h
 | .bi _::_,_,h=>by cases h
theorem ZfP (nt:List Stmt):Je nt Zm1:=by
 intro c o W f args lev st r st' e;refine Z25 e ?_;clear e;intro oq hl e;subst oq;refine ZcT e ?_;clear e;intro x y oq e;subst oq;refine Ze3 e ?_;clear e;intro s oq e;subst oq;refine Ze3 e ?_;clear e;intro l oq e;subst oq;refine Z8V e ?_;clear e;intro a b q h3 e;refine Z7L e ?_;clear e;intro t d rest oq e;subst oq;refine ZaJ e ?_;clear e;intro xs h4 e;refine Xv e ?_;clear e;intro ss h5 e
 refine Js e ?_;clear e;intro h6 e;refine Js e ?_;clear e;intro h7 e;refine Js e ?_;clear e;intro h8 e
 cases e
 (refine xE (Nat.exists_eq_add_of_le' hl) ?_;intro lev o0;subst o0)
 refine Z2U fun ρ s R=>?_
 (refine xAA (R.at_ _ _ h3) ?_;intro hlt o1 _;obtain ⟨_,_,_,_,hfut⟩:=o1)
 obtain ⟨_,_,_,hd,_⟩:=hfut;have bd:=YV a b (of_decide_eq_true h7);rw [hd] at bd;have hx:=Z4W h5;have hlen:t=xs.length:=by rw [hx,length_map]; exact of_decide_eq_true h6
 have hdl:d.toNat<ss.length:=by have:=of_decide_eq_true h6;omega
 refine Z5m ⟨hlt,h3⟩ ⟨(R.at_ _ _ h4).1,h4⟩ hlen (of_decide_eq_true h7) (of_decide_eq_true h8) bd.1 ?_ c W;rw [hx,getElem?_map,getElem?_eq_getElem hdl,List.getD_eq_getElem?_getD,getElem?_eq_getElem hdl];rfl
def ZkT:Orc:=ZiE ZkE (ZiE Zm1 Zlc)
theorem ZbR (nt:List Stmt):Y4 (Z1 nt ZkT):=((ZdY nt).or ((ZfP nt).or (ZeG nt))).g
end
theorem Z2m (hΓ:Γ.In A):∀ (l1:List Stmt)(p:Pos)(s:Shared),
  Sem.wp M Γ (execs l1 env) (fun f u0 s'=>match f with | .next=>wpAny M A (execs l2 env) Q E s' | f=>Q f s') (fun e u0 s'=>E e s') p s→Sem.wp M Γ (execs (l1++l2) env) (fun f u0 s'=>Q f s') (fun e u0 s'=>E e s') p s
 | [],p,s,h=>h Γ p hΓ
 | t::l1,p,s,h=>by
  rw [execs_cons,Sem.wp_bind'] at h;show Sem.wp M Γ (execs (t::(l1++l2)) env) _ _ p s;rw [execs_cons,Sem.wp_bind'];refine Sem.wp_mono M Γ _ (fun f p' s' h'=>?_) (fun u0 u0 u0 h'=>h') _ _ h
  induction f using PySem.Flow.casesOn with
  | next=>exact Z2m hΓ l1 p' s' h'
  | _=>exact h'
theorem Z4E 
  (h:wpAny M A (execs l1 env) (fun f s'=>match f with | .next=>wpAny M A (execs l2 env) Q E s' | f=>Q f s') E s):wpAny M A (execs (l1++l2) env) Q E s :=
 fun Γ p hΓ=>Z2m hΓ l1 p s (h Γ p hΓ)
theorem Zdr {st st1 st':St}(h1:Run T (.sts l1 ξ) st .nx st1)(h2:Run T (.sts l2 ξ) st1 o st'):Run T (.sts (l1++l2) ξ) st o st':=by
 intro c W A ρ env s E r e0 R;refine Z4E (Jb (h1 c W) r e0 R fun f s1 ρ1 g1 n1 R1 hf e1=>?_)
 cases hf
 exact Jb (h2 c W) r e1 R1 fun f s2 ρ2 g2 n2 R2 hf e2=>⟨ρ2,g1.trans g2 n1,W01 n1 n2,R2,hf⟩
def chR:ZF:=Z8 (Ze 69) [] 574 "_law_chain"
def ZkH:Stmt:=Zo 1 chR.body
def chT:Expr:=match ZkH with | .For t _ _ _ _=>t | _=>.Name "" ⟨0,0,0,0⟩
def chB:List Stmt:=match ZkH with | .For _ _ b _ _=>b | _=>[]
def chE (L C lev:Nat):Z3:=⟨chR.sc,L,[("source",C)],chR.code,ZU chR.qual,lev⟩
def T4 (nt:List Stmt):Tab:=Z1 nt ZkT
inductive Ch where
 | no (k:Nat)
 | yes (d:Int)
noncomputable def Ch.fut (n:Int):Ch→List (Int×Int)
 | .no k=>[(3,Int.ofNat (k+1))]
 | .yes d=>[(3,0),(n,d)]
noncomputable def Ch.tops (n:Int):Ch→List Int
 | .no _=>[3]
 | .yes _=>[3,n]
noncomputable def Ch.word (ws:List Str):Ch→Option Str
 | .no _=>none
 | .yes d=>some (ws.getD d.toNat "")
noncomputable def wSp:List Str:=["repeat","reflect","pad"]
noncomputable def wUn:List Str:=["userSpaceOnUse","objectBoundingBox"]
noncomputable def wX1:List Str:=["3","50%","-25%"]
noncomputable def wCy:List Str:=["7","10%"]
noncomputable def wNm:List Str:=["linearGradient","radialGradient"]
noncomputable def Y9:List Int→Int×Int→Int×Int
 | [],p=>p
 | t::l,p=>Y9 l (nxA p.1 t,nxB p.1 p.2)
structure Own where
 sp:Option Str
 un:Option Str
 x1:Option Str
 cy:Option Str
noncomputable def Q7 (k:Str):Option Str→List (Str×Str)
 | none=>[] | some v=>[(k,v)]
def Zw (q:Own):List (Str×Str):=Q7 "spreadMethod" q.sp++(Q7 "gradientUnits" q.un++(Q7 "x1" q.x1++Q7 "cy" q.cy))
noncomputable def Zm (l:List (Str×Str)):List (Str×MV):=l.map fun p=>(p.1,.str p.2)
structure Chs where
 c1:Ch
 c2:Ch
 c3:Ch
 c4:Ch
noncomputable def Chs.fut (c:Chs):List (Int×Int):=c.c1.fut 3++(c.c2.fut 2++(c.c3.fut 3++c.c4.fut 2))
noncomputable def Chs.tops (c:Chs):List Int:=c.c1.tops 3++(c.c2.tops 2++(c.c3.tops 3++c.c4.tops 2))
def Chs.own (c:Chs):Own:=⟨c.c1.word wSp,c.c2.word wUn,c.c3.word wX1,c.c4.word wCy⟩
noncomputable def ZlJ (many at_:Int)(c w p:Nat):List (Str×MV):=[("many",.int many),("stops",.ref p),("words",.ref w),("chain",.ref c),("at",.int at_)]
def YO (many at_:Int)(c w p own vals here rows:Nat):List (Str×MV):=ZlJ many at_ c w p++[((ofString "own"),.ref own),("name",.str "cy"),("values",.ref vals),("here",.ref here),("rows",.ref rows)]
noncomputable def ZjE:List (Nat×Nat×Nat)→List (Int×Int)
 | []=>[]
 | (i,j,k)::r=>(6,(i:Int))::(4,(j:Int))::(4,(k:Int))::ZjE r
noncomputable def Zki:List (Nat×Nat×Nat)→List Int
 | []=>[]
 | _::r=>6::4::4::Zki r
noncomputable def Zmo (n:Nat)(m:Nat):List Nat:=[n+3,n+4,n+5,n+13+8*m,n+13+8*m+4,n+13+8*m+1,n+13+8*m+2,n+13+8*m+9,n+11]++(List.range m).flatMap fun t=>(List.range 8).map fun u=>n+13+8*t+u
def QO (x:Nat)(c:Nat×Nat×Nat):List (Option MObj) :=
 [some (.dict (ZX (YL c.1) (ZW c.2.1) (opT c.2.2))),some (.list []),some (elD "stop" x (x+1)),some (.inst 501 (x+2)),some (YN c.1),some (J0 c.2.1),some (.tup [.ref (x+4),.ref (x+5),.int (Ym c.2.2)]),some (.tup [.ref (x+3),.ref (x+6)])]
noncomputable def J2 (x:Nat):List (Nat×Nat×Nat)→List (Option MObj)
 | []=>[]
 | c::r=>QO x c++J2 (x+8) r
noncomputable def Xw (x:Nat):List (Nat×Nat×Nat)→List MV
 | []=>[]
 | _::r=>.ref (x+3)::Xw (x+8) r
noncomputable def ZiR (x:Nat):List (Nat×Nat×Nat)→List MV
 | []=>[]
 | _::r=>.ref (x+7)::ZiR (x+8) r
theorem Z4s (k:Str)(o:Option Str):inD p (ent k o)=true:=by induction o using Option.casesOn<;>rfl
theorem Z7F:inD p (a++b)=(inD p a&&inD p b):=by unfold inD;rw [List.all_append]
theorem Zai (o c q:Option Str):inD p (ZX o c q)=true:=by
 unfold ZX;show (true&&inD p (ent "offset" o++(ent "stop-color" c++ent "stop-opacity" q)))=true;rw [Z7F,Z7F,Z4s,Z4s,Z4s];rfl
theorem Z5d:Y1 p (a++b)=(Y1 p a&&Y1 p b):=by unfold Y1;rw [List.all_append]
theorem Zaa (h:((List.range 8).all fun u=>p (x+u))=true):Y1 p (QO x c)=true:=by
 rw [all_eq_true] at h;have h:∀ u,u<8→p (x+u)=true:=fun u hu=>h u (mem_range.mpr hu);show (inD p (ZX _ _ _)&&(true&&((true&&(p x&&(p (x+1)&&(true&&true))))&&(p (x+2)&&((true&&(true&&true))&&((true&&(true&&(true&&true)))&&((p (x+4)&&(p (x+5)&&(true&&true)))&&((p (x+3)&&(p (x+6)&&true))&&true))))))))=true;rw [Zai,h 1 (by decide),h 2 (by decide),h 3 (by decide),h 4 (by decide),h 5 (by decide),h 6 (by decide),show p x=true from h 0 (by decide)]
 rfl
noncomputable def t2 {α:Type}(f:Bool→α):α×α:=(f false,f true)
theorem Yn {α:Type}{f g:Bool→α}(h:t2 f=t2 g)(b:Bool):f b=g b:=match b with
 | false=>congrArg fst h
 | true=>congrArg Prod.snd h
noncomputable def Qp (b:Bool)(k:Nat)(d:Int):Ch:=match b with | false=>.no k | true=>.yes d
noncomputable def Zlt (b:Bool):Nat:=match b with | false=>0 | true=>2
structure Drw where
 k0:Nat
 k1:Nat
 k2:Nat
 k3:Nat
 d0:Int
 d1:Int
 d2:Int
 d3:Int
 nm:Int
 c0:Nat×Nat×Nat
 c1:Nat×Nat×Nat
def Jf (p:Drw)(x0 x1 x2 x3:Bool):Chs:=⟨Qp x0 p.k0 p.d0,Qp x1 p.k1 p.d1,Qp x2 p.k2 p.d2,Qp x3 p.k3 p.d3⟩
noncomputable def rO (y0 y1:Bool):Int:=match y1 with
 | false=>(match y0 with | false=>0 | true=>1)
 | true=>(match y0 with | false=>2 | true=>3)
noncomputable def csO (p:Drw)(y0 y1:Bool):List (Nat×Nat×Nat):=match y1 with
 | false=>[]
 | true=>(match y0 with | false=>[p.c0] | true=>[p.c0,p.c1])
noncomputable def mO (y0 y1:Bool):Nat:=match y1 with
 | false=>0
 | true=>(match y0 with | false=>1 | true=>2)
def J3 (p:Drw)(x0 x1 x2 x3 y0 y1:Bool)(l:List (Int×Int)):List (Int×Int):=(Jf p x0 x1 x2 x3).fut++((2,p.nm)::(4,rO y0 y1)::(ZjE (csO p y0 y1)++l))
def Zjb (p:Drw)(x0 x1 x2 x3 y0 y1:Bool):List Int:=(Jf p x0 x1 x2 x3).tops++(2::4::Zki (csO p y0 y1))
noncomputable def aN (sh:Bool):Nat:=match sh with | false=>6 | true=>10
def nA (sh x0 x1 x2 x3:Bool):Nat:=aN sh+15+(Zlt x0+Zlt x1+Zlt x2+Zlt x3)
def aIn (sh:Bool)(a b many at_:Int)(f:List (Int×Int)):List (Option MObj) :=
 [some (.src a b f),some (.frame (match sh with | false=>ZlJ many at_ 3 4 5 | true=>YO many at_ 3 4 5 6 7 8 9)),some (.cell (some (.ref 0))),none,none,none]++(match sh with | false=>[] | true=>[none,none,none,none])
def ZlN (sh:Bool)(n:Nat)(a b many at_:Int)(f:List (Int×Int)):List (Option MObj) :=
 [some (.src a b f),some (.frame (YO many at_ 3 4 5 (aN sh) (aN sh+7) (n+5) (n+11))),some (.cell (some (.ref 0))),none,none,none]++(match sh with | false=>[] | true=>[none,none,none,none])
def Zja (sh:Bool)(n m:Nat):List Nat:=aN sh::(aN sh+7)::Zmo n m
def ZiS (n m:Nat)(p:Drw)(x0 x1 x2 x3:Bool):List (Option MObj) :=
 [some (.dict (Zm (Zw (Jf p x0 x1 x2 x3).own))),some (.list (wCy.map .str)),some (.dict (Zm (Zw (Jf p x0 x1 x2 x3).own))),some (elD (wNm.getD p.nm.toNat "") (n+3) (n+13+8*m+9)),some (.inst 501 (n+4)),some (.dict [("offset",.str "1")]),some (.list []),some (elD "desc" (n+13+8*m) (n+13+8*m+4)),some (.inst 501 (n+13+8*m+1))]
def ZiI (n m:Nat)(p:Drw)(x0 x1 x2 x3 y0 y1:Bool):List (Option MObj):=(ZiS n m p x0 x1 x2 x3++[some (.list (.ref (n+13+8*m+2)::Xw (n+13) (csO p y0 y1))),some (.list (ZiR (n+13) (csO p y0 y1)))])++J2 (n+13) (csO p y0 y1)
section
variable (nt:List Stmt)(p:Drw)(a b many at_:Int)(l:List (Int×Int))
def ZkZ (sh x0 x1 x2 x3 y0 y1:Bool):=fin (ev (T4 nt) .nil 400 (.sts (chB.take 5) (chE 1 2 17)) (mkS (aIn sh a b many at_ (J3 p x0 x1 x2 x3 y0 y1 l)))) (aN sh) (Zja sh (nA sh x0 x1 x2 x3) (mO y0 y1))
def Zla (sh x0 x1 x2 x3 y0 y1:Bool):Option (Out×Nat×List (Option MObj)×List (Option MObj)):=some (.nx,nA sh x0 x1 x2 x3+23+8*mO y0 y1,ZlN sh (nA sh x0 x1 x2 x3) (Y9 (Zjb p x0 x1 x2 x3 y0 y1) (a,b)).1 (Y9 (Zjb p x0 x1 x2 x3 y0 y1) (a,b)).2 many at_ l,ZiI (nA sh x0 x1 x2 x3) (mO y0 y1) p x0 x1 x2 x3 y0 y1)
def abL (sh x0 x1:Bool):=t2 fun x2=>t2 fun x3=>t2 fun y0=>t2 fun y1=>ZkZ nt p a b many at_ l sh x0 x1 x2 x3 y0 y1
def abR (sh x0 x1:Bool):=t2 fun x2=>t2 fun x3=>t2 fun y0=>t2 fun y1=>Zla p a b many at_ l sh x0 x1 x2 x3 y0 y1
theorem ab0:abL nt p a b many at_ l false false false=abR p a b many at_ l false false false:=∅
theorem ab1:abL nt p a b many at_ l false false true=abR p a b many at_ l false false true:=∅
theorem ab2:abL nt p a b many at_ l false true false=abR p a b many at_ l false true false:=∅
theorem ab3:abL nt p a b many at_ l false true true=abR p a b many at_ l false true true:=∅
theorem ab4:abL nt p a b many at_ l true false false=abR p a b many at_ l true false false:=∅
theorem ab5:abL nt p a b many at_ l true false true=abR p a b many at_ l true false true:=∅
theorem ab6:abL nt p a b many at_ l true true false=abR p a b many at_ l true true false:=∅
theorem ab7:abL nt p a b many at_ l true true true=abR p a b many at_ l true true true:=∅
theorem Zf2 (sh x0 x1 x2 x3 y0 y1:Bool):ZkZ nt p a b many at_ l sh x0 x1 x2 x3 y0 y1=Zla p a b many at_ l sh x0 x1 x2 x3 y0 y1 :=
 Yn (Yn (Yn (Yn (match sh,x0,x1 with
  | false,false,false=>ab0 nt p a b many at_ l
  | false,false,true=>ab1 nt p a b many at_ l
  | false,true,false=>ab2 nt p a b many at_ l
  | false,true,true=>ab3 nt p a b many at_ l
  | true,false,false=>ab4 nt p a b many at_ l
  | true,false,true=>ab5 nt p a b many at_ l
  | true,true,false=>ab6 nt p a b many at_ l
  | true,true,true=>ab7 nt p a b many at_ l:abL nt p a b many at_ l sh x0 x1=abR p a b many at_ l sh x0 x1) x2) x3) y0) y1
def abC (sh x0 x1 x2 x3 y0 y1:Bool):Bool :=
 let os:=aIn sh a b many at_ (J3 p x0 x1 x2 x3 y0 y1 l)
 let n:=nA sh x0 x1 x2 x3
 let m:=mO y0 y1
 let olds:=ZlN sh n (Y9 (Zjb p x0 x1 x2 x3 y0 y1) (a,b)).1 (Y9 (Zjb p x0 x1 x2 x3 y0 y1) (a,b)).2 many at_ l
 let new:=Zja sh n m
 let front:=ZiS n m p x0 x1 x2 x3++[some (.list (.ref (n+13+8*m+2)::Xw (n+13) (csO p y0 y1))),some (.list (ZiR (n+13) (csO p y0 y1)))]
 Y1 (below (aN sh)) os&&Y1 (pOf (aN sh) new) olds&&Y1 (pOf (aN sh) new) front&&Zjn os olds&&new.all (fun i=>ble (aN sh) i&&blt i (n+23+8*m))&&beq new.length (front.length+8*m)&&beq (aN sh) os.length&&beq olds.length (aN sh)&&decide new.Nodup&&((List.range (8*m)).all fun u=>pOf (aN sh) new (n+13+u))
theorem Zfk:(t2 fun sh=>t2 fun x0=>t2 fun x1=>t2 fun x2=>t2 fun x3=>t2 fun y0=>t2 fun y1=>abC p a b many at_ l sh x0 x1 x2 x3 y0 y1)=t2 fun u0=>t2 fun u0=>t2 fun u0=>t2 fun u0=>t2 fun u0=>t2 fun u0=>t2 fun u0=>true:=∅
end
theorem Z27:∀ (cs:List (Nat×Nat×Nat))(x:Nat),(J2 x cs).length=8*cs.length
 | [],_=>rfl
 | _::r,x=>by
  show (J2 (x+8) r).length+8=8*(r.length+1)
  rw [Z27 r]; rfl
theorem Z4T:∀ (cs:List (Nat×Nat×Nat))(x:Nat),(∀ u,u<8*cs.length→p (x+u)=true)→Y1 p (J2 x cs)=true
 | [],_,_=>rfl
 | c::r,x,h=>by
  show Y1 p (QO x c++J2 (x+8) r)=true
  rw [Z5d,Z4T r (x+8) fun u hu=>by rw [add_assoc,add_comm 8 u]; exact h _ (Nat.add_lt_add_right hu 8),Bool.and_true];exact Zaa (all_eq_true.mpr fun u hu=>h u (W00 (mem_range.mp hu) (Nat.le_add_left 8 _)))
theorem Z2T (p:Drw)(y0 y1:Bool):(csO p y0 y1).length=mO y0 y1:=by
 induction y1 using Bool.casesOn<;>induction y0 using Bool.casesOn<;>rfl
theorem Zf8 (nt:List Stmt)(p:Drw)(a b many at_:Int)(l:List (Int×Int))(sh x0 x1 x2 x3 y0 y1:Bool) :
  ZM (T4 nt) 400 (.sts (chB.take 5) (chE 1 2 17)) (aIn sh a b many at_ (J3 p x0 x1 x2 x3 y0 y1 l)) (aN sh) (Zja sh (nA sh x0 x1 x2 x3) (mO y0 y1)) .nx (nA sh x0 x1 x2 x3+23+8*mO y0 y1)
   (ZlN sh (nA sh x0 x1 x2 x3) (Y9 (Zjb p x0 x1 x2 x3 y0 y1) (a,b)).1 (Y9 (Zjb p x0 x1 x2 x3 y0 y1) (a,b)).2 many at_ l) (ZiI (nA sh x0 x1 x2 x3) (mO y0 y1) p x0 x1 x2 x3 y0 y1):=by
 refine ⟨Zf2 nt p a b many at_ l sh x0 x1 x2 x3 y0 y1,?_⟩;have h:=Yn (Yn (Yn (Yn (Yn (Yn (Yn (Zfk p a b many at_ l) sh) x0) x1) x2) x3) y0) y1;refine Bool.and_eq_true_iff.mpr ⟨?_,rfl⟩;unfold abC at h;refine xA (W0h h) fun h hp=>?_;have hs:=Z4T (p:=pOf (aN sh) (Zja sh (nA sh x0 x1 x2 x3) (mO y0 y1))) (csO p y0 y1) (nA sh x0 x1 x2 x3+13) fun u hu=>all_eq_true.mp hp u (mem_range.mpr (Z2T p y0 y1▸hu))
 unfold Yi ZiI;rw [Z5d,hs,Bool.and_true,length_append,Z27,Z2T];exact h
def Blk (st:St)(b:Nat)(L:List (Option MObj)):Prop:=∀ k o,L[k]?=some (some o)→Has st (b+k) o
section
variable {st st':St}{b:Nat}{L R:List (Option MObj)}{M:List Nat}
theorem Blk.le (h:Blk st b L)(k:Le M st st')(hm:∀ j,j<L.length→b+j∉M):Blk st' b L:=fun i o e=>(h i o e).le k (hm i (List.getElem?_eq_some_iff.mp e).1)
theorem Blk.right (h:Blk st b (L++R)):Blk st (b+L.length) R:=fun i o e=>by
 rw [add_assoc];exact h _ o (by rw [List.getElem?_append_right (Nat.le_add_right _ _),Nat.add_sub_cancel_left]; exact e)
end
structure ZK where
 q:Own
 nm:Str
 lk:Option (Bool×Str)
 cs:List (Nat×Nat×Nat)
noncomputable def lkE:Option (Bool×Str)→List (Str×MV)
 | none=>[]
 | some (true,t)=>[("href",.str t)]
 | some (false,t)=>[("xlink:href",.str t)]
noncomputable def QP (st:St):Nat→List (Nat×Nat×Nat)→Prop
 | _,[]=>True
 | x,c::r=>(Has st x (.dict (ZX (YL c.1) (ZW c.2.1) (opT c.2.2)))∧Has st (x+1) (.list [])∧Has st (x+2) (elD "stop" x (x+1))∧Has st (x+3) (.inst 501 (x+2))∧Has st (x+4) (YN c.1)∧Has st (x+5) (J0 c.2.1) ∧
   Has st (x+6) (.tup [.ref (x+4),.ref (x+5),.int (Ym c.2.2)]))∧QP st (x+8) r
noncomputable def Zjg (x:Nat):List (Nat×Nat×Nat)→List MV
 | []=>[]
 | _::r=>.ref (x+6)::Zjg (x+8) r
def abO (y:Nat)(nm:Str)(q:Own)(at_:List (Str×MV))(cs:List (Nat×Nat×Nat)):List (Option MObj) :=
 [some (.dict (Zm (Zw q))),some (.list (wCy.map .str)),some (.dict at_),some (elD nm (y+2) (y+9)),some (.inst 501 (y+3)),some (.dict [("offset",.str "1")]),some (.list []),some (elD "desc" (y+5) (y+6)),some (.inst 501 (y+7)),some (.list (.ref (y+8)::Xw (y+11) cs)),some (.list (ZiR (y+11) cs))]++J2 (y+11) cs
structure Elt (st:St)(x:ZK)(y:Nat):Prop where
 b:Blk st y (abO y x.nm x.q (Zm (Zw x.q)++lkE x.lk) x.cs)
 r:Has st (y+30) (.list (Zjg (y+11) x.cs))
theorem Zcl (h:cs.length≤2):(abO y nm q at_ cs).length≤27:=by
 unfold abO;rw [length_append,Z27];exact Nat.add_le_add_left (Nat.mul_le_mul_left 8 h) 11
theorem Elt.le {st st':St}(h:Elt st x y)(hc:x.cs.length≤2)(k:Le M st st')(hm:∀ j,j<31→y+j∉M):Elt st' x y :=
 ⟨h.b.le k fun j hj=>hm j (W00 hj (W01 (Zcl hc) (by decide))),h.r.le k (hm 30 (by decide))⟩
theorem Z81 {st:St}:∀ {cs:List (Nat×Nat×Nat)}{x:Nat},Blk st x (J2 x cs)→QP st x cs
 | [],_,_=>trivial
 | _::_,_,h=>⟨⟨h 0 _ rfl,h 1 _ rfl,h 2 _ rfl,h 3 _ rfl,h 4 _ rfl,h 5 _ rfl,h 6 _ rfl⟩,Z81 (Blk.right (L:=QO _ _) h)⟩
theorem Elt.stps {st:St}(h:Elt st x y):QP st (y+11) x.cs:=Z81 (Blk.right (L:=[_,_,_,_,_,_,_,_,_,_,_]) h.b)
theorem Z39 (f:Nat→Nat)(k:Str)(o:Option Str):ZZ f (ent k o)=ent k o:=by induction o using Option.casesOn<;>rfl
theorem Z6E (f:Nat→Nat)(a b:List (Str×MV)):ZZ f (a++b)=ZZ f a++ZZ f b:=by unfold ZZ;rw [map_append]
theorem Z3D (f:Nat→Nat)(o c p:Option Str):ZZ f (ZX o c p)=ZX o c p:=by
 unfold ZX;show (_,MV.str _)::ZZ f (_++(_++_))=_;rw [Z6E,Z6E,Z39,Z39,Z39]
theorem Z8P (h:∀ u,u<8→g (b+u)=x+u):(QO b c).map (Option.map (ZA g))=QO x c:=by
 show [some (.dict (ZZ g (ZX (YL c.1) (ZW c.2.1) (opT c.2.2)))),some (.list []),some (elD "stop" (g (b+0)) (g (b+1))),some (.inst 501 (g (b+2))),some (YN c.1),some (J0 c.2.1),some (.tup [.ref (g (b+4)),.ref (g (b+5)),.int (Ym c.2.2)]),some (.tup [.ref (g (b+3)),.ref (g (b+6))])]=_
 rw [Z3D,h 0 (by decide),h 1 (by decide),h 2 (by decide),h 3 (by decide),h 4 (by decide),h 5 (by decide),h 6 (by decide)];rfl
theorem Z3R:∀ {cs:List (Nat×Nat×Nat)}{b x:Nat},(∀ u,u<8*cs.length→g (b+u)=x+u)→(J2 b cs).map (Option.map (ZA g))=J2 x cs
 | [],_,_,_=>rfl
 | c::r,b,x,h=>by
  show (QO b c++J2 (b+8) r).map _=QO x c++J2 (x+8) r
  rw [map_append,Z8P fun u hu=>h u (Nat.lt_of_lt_of_le hu (Nat.le_add_left 8 _)),Z3R (x:=x+8) fun u hu=>by rw [add_assoc,add_assoc,add_comm 8 u]; exact h _ (Nat.add_lt_add_right hu 8)]
theorem Z1R:∀ {l1 l2:List (Int×Int)}{a b:Int},YK a b l1→YK (Y9 (l1.map (·.1)) (a,b)).1 (Y9 (l1.map (·.1)) (a,b)).2 l2→YK a b (l1++l2)
 | [],_,_,_,_,h=>h
 | (t,d)::l,l2,a,b,h,k=>⟨h.1,h.2.1,h.2.2.1,Z1R h.2.2.2 k⟩
noncomputable def Ch.Ok (n:Int):Ch→Prop
 | .no _=>True
 | .yes d=>0≤d∧d<n
theorem Ch.map_tops (n:Int)(c:Ch):(c.fut n).map (·.1)=c.tops n:=by induction c using Ch.casesOn<;>rfl
theorem Za9 (n:Int)(h0:0<n)(h1:n<1000)(a b:Int):∃ c:Ch,c.Ok n∧YK a b (c.fut n):=by
 have h:=YV a b (t:=3) (by decide);by_cases q:dr a b 3=0
 ·have h':=YV (nxA a 3) (nxB a b) h0;exact ⟨.yes (dr (nxA a 3) (nxB a b) n),h',by decide,by decide,q,h0,h1,rfl,trivial⟩
 ·obtain ⟨k,hk⟩:=eq_ofNat_of_zero_le h.1;have:k≠0:=fun z=>q (by rw [hk,z]; rfl)
  (refine xE (Nat.exists_eq_succ_of_ne_zero this) ?_;intro k' o0;subst o0)
  exact ⟨.no k',trivial,by decide,by decide,hk,trivial⟩
structure Chs.Ok (c:Chs):Prop where
 o1:c.c1.Ok 3
 o2:c.c2.Ok 2
 o3:c.c3.Ok 3
 o4:c.c4.Ok 2
theorem Ze1 (a b:Int):∃ c:Chs,c.Ok∧YK a b c.fut:=by
 obtain ⟨c1,o1,f1⟩:=Za9 3 (by decide) (by decide) a b;obtain ⟨c2,o2,f2⟩:=Za9 2 (by decide) (by decide) (Y9 (c1.tops 3) (a,b)).1 (Y9 (c1.tops 3) (a,b)).2;obtain ⟨c3,o3,f3⟩:=Za9 3 (by decide) (by decide) (Y9 (c2.tops 2) (Y9 (c1.tops 3) (a,b))).1 (Y9 (c2.tops 2) (Y9 (c1.tops 3) (a,b))).2;obtain ⟨c4,o4,f4⟩:=Za9 2 (by decide) (by decide) (Y9 (c3.tops 3) (Y9 (c2.tops 2) (Y9 (c1.tops 3) (a,b)))).1 (Y9 (c3.tops 3) (Y9 (c2.tops 2) (Y9 (c1.tops 3) (a,b)))).2
 exact ⟨⟨c1,c2,c3,c4⟩,⟨o1,o2,o3,o4⟩,Z1R f1 (by rw [Ch.map_tops]; exact Z1R f2 (by rw [Ch.map_tops]; exact Z1R f3 (by rw [Ch.map_tops]; exact f4)))⟩
theorem Chs.map_tops (c:Chs):c.fut.map (·.1)=c.tops:=by
 unfold Chs.fut Chs.tops;rw [map_append,map_append,map_append,Ch.map_tops,Ch.map_tops,Ch.map_tops,Ch.map_tops]
def Q8 (c:Nat×Nat×Nat):Prop:=c.1<6∧c.2.1<4∧c.2.2<4
theorem Z6f:∀ (m:Nat)(a b:Int),∃ cs:List (Nat×Nat×Nat),cs.length=m∧(∀ c∈cs,Q8 c)∧YK a b (ZjE cs)
 | 0,_,_=>⟨[],rfl,by simp,trivial⟩
 | m+1,a,b=>by
  have h1:=YV a b (t:=6) (by decide);have h2:=YV (nxA a 6) (nxB a b) (t:=4) (by decide);have h3:=YV (nxA (nxA a 6) 4) (nxB (nxA a 6) (nxB a b)) (t:=4) (by decide);obtain ⟨i,hi⟩:=eq_ofNat_of_zero_le h1.1;obtain ⟨j,hj⟩:=eq_ofNat_of_zero_le h2.1;obtain ⟨k,hk⟩:=eq_ofNat_of_zero_le h3.1;obtain ⟨cs,l1,l2,l3⟩:=Z6f m (nxA (nxA (nxA a 6) 4) 4) (nxB (nxA (nxA a 6) 4) (nxB (nxA a 6) (nxB a b)))
  refine ⟨(i,j,k)::cs,by simp [l1],fun c hc=>?_,by decide,by decide,hi,by decide,by decide,hj,by decide,by decide,hk,l3⟩;rcases W0i hc with rfl | hc
  ·exact ⟨by show i<6;omega,by show j<4;omega,by show k<4;omega⟩
  ·exact l2 c hc
theorem Z6i (c:Ch):∃ x k d,c=Qp x k d:=match c with
 | .no k=>⟨false,k,0,rfl⟩
 | .yes d=>⟨true,0,d,rfl⟩
theorem ZfA (h:0≤r∧r<4):∃ y0 y1,r=rO y0 y1:=by
 have:r=0∨r=1∨r=2∨r=3:=by omega
 rcases this with e | e | e | e
 ·exact ⟨false,false,e⟩
 ·exact ⟨true,false,e⟩
 ·exact ⟨false,true,e⟩
 ·exact ⟨true,true,e⟩
theorem ZdR:∀ (y0 y1:Bool)(cs:List (Nat×Nat×Nat)),cs.length=mO y0 y1→∃ c0 c1,∀ k0 k1 k2 k3 d0 d1 d2 d3 nm,csO ⟨k0,k1,k2,k3,d0,d1,d2,d3,nm,c0,c1⟩ y0 y1=cs
 | _,false,[],_=>⟨(0,0,0),(0,0,0),fun u0 u0 u0 u0 u0 u0 u0 u0 u0=>rfl⟩
 | false,true,[c0],_=>⟨c0,(0,0,0),fun u0 u0 u0 u0 u0 u0 u0 u0 u0=>rfl⟩
 | true,true,[c0,c1],_=>⟨c0,c1,fun u0 u0 u0 u0 u0 u0 u0 u0 u0=>rfl⟩
 | _,false,_::_,h=>nomatch h
 | false,true,[],h=>nomatch h
 | false,true,_::_::_,h=>nomatch Nat.succ.inj h
 | true,true,[],h=>nomatch h
 | true,true,[_],h=>nomatch Nat.succ.inj h
 | true,true,_::_::_::_,h=>nomatch Nat.succ.inj (Nat.succ.inj h)
theorem ZdA (a b:Int):∃ (p:Drw)(x0 x1 x2 x3 y0 y1:Bool),(Jf p x0 x1 x2 x3).Ok∧(∀ c∈csO p y0 y1,Q8 c)∧YK a b (J3 p x0 x1 x2 x3 y0 y1 []):=by
 obtain ⟨⟨c1,c2,c3,c4⟩,hok,hf⟩:=Ze1 a b;obtain ⟨x0,k0,d0,rfl⟩:=Z6i c1;obtain ⟨x1,k1,d1,rfl⟩:=Z6i c2;obtain ⟨x2,k2,d2,rfl⟩:=Z6i c3;obtain ⟨x3,k3,d3,rfl⟩:=Z6i c4
 let q:=Y9 (Chs.tops ⟨Qp x0 k0 d0,Qp x1 k1 d1,Qp x2 k2 d2,Qp x3 k3 d3⟩) (a,b)
 obtain ⟨y0,y1,hr⟩:=ZfA (YV (nxA q.1 2) (nxB q.1 q.2) (t:=4) (by decide));obtain ⟨cs,hl,hc,hcf⟩:=Z6f (mO y0 y1) (nxA (nxA q.1 2) 4) (nxB (nxA q.1 2) (nxB q.1 q.2));obtain ⟨c0,c1,e⟩:=ZdR y0 y1 cs hl;have e:=e k0 k1 k2 k3 d0 d1 d2 d3 (dr q.1 q.2 2);refine ⟨⟨k0,k1,k2,k3,d0,d1,d2,d3,dr q.1 q.2 2,c0,c1⟩,x0,x1,x2,x3,y0,y1,hok,e▸hc,Z1R hf ?_⟩;rw [Chs.map_tops,e,append_nil]
 exact ⟨by decide,by decide,rfl,by decide,by decide,hr,hcf⟩
section
variable {T:Tab}{st st':St}{ξ:Z3}{s:Nat}{a b:Int}{l:List (Int×Int)}
theorem Zf6 (h:Has st s (.src a b []))(hl:YK a b l)(m:Run T (.sts x ξ) (st.put s (.src a b l)) o st'):Run T (.sts x ξ) st o st' :=
 fun c W=>ZbS (st1:=st.put s (.src a b l)) rfl (fun ρ sh R=>Z5X h.2 hl ρ sh R) (m c W)
theorem Z7N (h:Has st s (.src a b []))(hl:YK a b l)(m:Run T (.call f args lev) (st.put s (.src a b l)) (.v v) st'):Run T (.call f args lev) st (.v v) st' :=
 fun c W=>Z6c (st1:=st.put s (.src a b l)) rfl (fun ρ sh R=>Z5X h.2 hl ρ sh R) (m c W)
end
def Zk3 (q:Own):Prop:=(∀ v,q.sp=some v→v∈wSp)∧(∀ v,q.un=some v→v∈wUn)∧(∀ v,q.x1=some v→v∈wX1)∧(∀ v,q.cy=some v→v∈wCy)
theorem Z2F {c:Ch}(h:c.Ok n)(hn:n=ws.length)(hv:c.word ws=some v):v∈ws:=by
 induction c using Ch.casesOn with
 | no=>cases hv
 | yes d =>
  obtain ⟨h1,h2⟩:=h;have hd:d.toNat<ws.length:=by omega
  have:ws.getD d.toNat ""=v:=W0g hv
  rw [List.getD_eq_getElem?_getD,getElem?_eq_getElem hd] at this;rw [← this];exact List.getElem_mem hd
theorem Zei {c:Chs}(h:c.Ok):Zk3 c.own:=⟨fun u0 hv=>Z2F h.o1 rfl hv,fun u0 hv=>Z2F h.o2 rfl hv,fun u0 hv=>Z2F h.o3 rfl hv,fun u0 hv=>Z2F h.o4 rfl hv⟩
section
variable (p:Drw)(x:Nat)(f:Nat→Nat)(many at_:Int)
def abG (sh x0 x1 x2 x3 y0 y1:Bool):Nat→Nat:=gOf (aN sh) x (Zja sh (nA sh x0 x1 x2 x3) (mO y0 y1)) f
def abE (sh x0 x1 x2 x3 y0 y1:Bool):List (Option MObj)×List Nat×MObj :=
 let g:=abG x f sh x0 x1 x2 x3 y0 y1
 let n:=nA sh x0 x1 x2 x3
 ((ZiS n (mO y0 y1) p x0 x1 x2 x3++[some (MObj.list (.ref (n+13+8*mO y0 y1+2)::Xw (n+13) (csO p y0 y1))),some (MObj.list (ZiR (n+13) (csO p y0 y1)))]).map (Option.map (ZA g)),(List.range (8*mO y0 y1)).map fun u=>g (n+13+u),ZA g (.frame (YO many at_ 3 4 5 (aN sh) (aN sh+7) (n+5) (n+11))))
def abX (x0 x1 x2 x3 y0 y1:Bool):List (Option MObj)×List Nat×MObj :=
 (abO x (wNm.getD p.nm.toNat "") (Jf p x0 x1 x2 x3).own (Zm (Zw (Jf p x0 x1 x2 x3).own)) (csO p y0 y1) |>.take 11,(List.range (8*mO y0 y1)).map fun u=>x+11+u,.frame (YO many at_ (f 3) (f 4) (f 5) x (x+1) (x+4) (x+10)))
theorem Zex:(t2 fun sh=>t2 fun x0=>t2 fun x1=>t2 fun x2=>t2 fun x3=>t2 fun y0=>t2 fun y1=>abE p x f many at_ sh x0 x1 x2 x3 y0 y1)=t2 fun u0=>t2 fun x0=>t2 fun x1=>t2 fun x2=>t2 fun x3=>t2 fun y0=>t2 fun y1=>abX p x f many at_ x0 x1 x2 x3 y0 y1:=∅
theorem Z6g (sh x0 x1 x2 x3 y0 y1:Bool):abE p x f many at_ sh x0 x1 x2 x3 y0 y1=abX p x f many at_ x0 x1 x2 x3 y0 y1:=Yn (Yn (Yn (Yn (Yn (Yn (Yn (Zex p x f many at_) sh) x0) x1) x2) x3) y0) y1
theorem Z7l (sh x0 x1 x2 x3 y0 y1:Bool):(ZiI (nA sh x0 x1 x2 x3) (mO y0 y1) p x0 x1 x2 x3 y0 y1).map (Option.map (ZA (abG x f sh x0 x1 x2 x3 y0 y1)))=abO x (wNm.getD p.nm.toNat "") (Jf p x0 x1 x2 x3).own (Zm (Zw (Jf p x0 x1 x2 x3).own)) (csO p y0 y1):=by
 have e:=Z6g p x f 0 0 sh x0 x1 x2 x3 y0 y1;unfold ZiI;rw [map_append,Z3R (x:=x+11) fun u hu=>?_]
 ·exact congrArg (·++J2 (x+11) (csO p y0 y1)) (congrArg fst e)
 ·rw [Z2T] at hu;have:=congrArg (fun l:List Nat=>l[u]?) (congrArg (fun z=>z.2.1) e);change ((List.range _).map _)[u]?=((List.range _).map _)[u]? at this;rw [getElem?_map,getElem?_map,List.getElem?_range hu] at this;exact W0g this
end
theorem Ran.blk {st st':St}{fl new:List Nat}{os olds news L:List (Option MObj)}(r:Ran st st' fl os olds news new)(h:news.map (Option.map (ZA (gOf fl.length st.n new (idx fl))))=L):Blk st' st.n L:=fun k o e=>by
 rw [← h,getElem?_map] at e;refine xEA (map_eq_some_iff.mp e) fun z hz e=>?_;refine xEA (map_eq_some_iff.mp e) fun o' ho e=>?_;subst e;subst ho;exact r.new k o' hz
theorem Le.drop (h:Le (M++[m]) a b)(ha:Has a m o)(hb:Has b m o):Le M a b:=⟨h.1,fun i hi hm=>by
 by_cases q:i=m
 ·rw [q,ha.2,hb.2]
 ·exact h.2 i hi fun z=>(mem_append.mp z).elim hm fun z=>q (mem_singleton.mp z)⟩
section
variable {c:Cfg}{T:Tab}{nt:List Stmt}{st st1:St}{ξ:Z3}{s n:Nat}{a b many k:Int}{ρ:Rho}{sh:Shared}
theorem Rel.gap (R:Rel c ρ st sh)(j:Nat):Rel c ρ (st.gap j) sh :=
 ⟨R.big,fun i o e=>xAA (R.at_ i o e) fun h1 h2 h3=>⟨W00 h1 (W07 _ _),h2.mono (Ag.refl _ _) (W07 _ _) h1,h3⟩,R.inj,fun i o e=>xAA (R.ro i o e) fun h1 h2 h3=>⟨W00 h1 (W07 _ _),h2.mono (Ag.refl _ _) (W07 _ _) h1,h3⟩,R.keep,R.gens,R.os,R.drawn⟩
theorem Has.gap (h:Has st i o):Has (st.gap j) i o:=⟨W00 h.1 (W07 _ _),h.2⟩
theorem ZcE (h:Run T (.sts l ξ) st .nx st1)(j:Nat):Run T (.sts l ξ) st .nx (st1.gap j):=fun c W A ρ env s E r e R =>
 wpAny_mono (h c W A ρ env s E r e R) (fun v s' z9=>xEAAA z9 fun ρ' g hn R' hv=>⟨ρ',g,W01 hn (W07 _ _),R'.gap j,hv⟩) fun u0 u0 z=>z
def FrB (st:St)(n:Nat)(many k:Int)(F:List (Str×MV)):Prop :=
 F=ZlJ many k (n+2) (n+3) (n+4)∨∃ o v h r,o<st.n∧v<st.n∧h<st.n∧r<st.n∧F=YO many k (n+2) (n+3) (n+4) o v h r
structure AB (st st':St)(s n:Nat)(many k:Int)(q:Own)(nm:Str)(cs:List (Nat×Nat×Nat)):Prop where
 num:st'.n=st.n+27
 le:Le [s,n] st st'
 fr:Has st' n (.frame (YO many k (n+2) (n+3) (n+4) st.n (st.n+1) (st.n+4) (st.n+10)))
 b:Blk st' st.n (abO st.n nm q (Zm (Zw q)) cs)
 q:Zk3 q
 m:cs.length≤2
 ok:∀ c∈cs,Q8 c
theorem ZdS (hl:ex.length+6=aN z)(hs:Has st s (.src a b []))(hc:Has st (n+1) (.cell (some (.ref s))))(hsn:s<n)(hok:(Jf p x0 x1 x2 x3).Ok)(hcs:∀ c∈csO p y0 y1,Q8 c)(hfut:YK a b (J3 p x0 x1 x2 x3 y0 y1 []))
  (hfit:ZG (st.put s (.src a b (J3 p x0 x1 x2 x3 y0 y1 []))) (idx (s::n::(n+1)::(n+2)::(n+3)::(n+4)::ex)) (s::n::(n+1)::(n+2)::(n+3)::(n+4)::ex) (aIn z a b many k (J3 p x0 x1 x2 x3 y0 y1 [])))
  (hpr:Zj (s::n::(n+1)::(n+2)::(n+3)::(n+4)::ex) (aIn z a b many k (J3 p x0 x1 x2 x3 y0 y1 []))=[s,n,n+1]) :
  ∃ (st':St) (a' b':Int),Run (T4 nt) (.sts (chB.take 5) (chE n (n+1) 17)) st .nx st'∧Has st' s (.src a' b' [])∧AB st st' s n many k (Jf p x0 x1 x2 x3).own (wNm.getD p.nm.toNat "") (csO p y0 y1):=by
 have hr:=Zf8 nt p a b many k [] z x0 x1 x2 x3 y0 y1;rw [← hl] at hr;have hn1:n+1≠s:=fun q=>lt_irrefl _ (Nat.lt_trans hsn (q▸W02 n));have hnd:(Zj (s::n::(n+1)::(n+2)::(n+3)::(n+4)::ex) (aIn z a b many k (J3 p x0 x1 x2 x3 y0 y1 []))).Nodup:=by
  rw [hpr];exact ndc (nmc (W05 hsn) (nm1 hn1.symm)) (ndc (nm1 (W05 (W02 n))) (ndc not_mem_nil nodup_nil))
 obtain ⟨st',m,ran⟩:=Zd4 (ZbR nt) (fl:=s::n::(n+1)::(n+2)::(n+3)::(n+4)::ex) hr rfl hfit hnd;have hm:(csO p y0 y1).length≤2:=by rw [Z2T]; induction y1 using Bool.casesOn<;>induction y0 using Bool.casesOn<;>exact W06 rfl
 have hlen:(Zja z (nA z x0 x1 x2 x3) (mO y0 y1)).length=11+8*mO y0 y1:=by
  induction y1 using Bool.casesOn<;>induction y0 using Bool.casesOn<;>rfl
 have hc2:Has st' (n+1) (.cell (some (.ref s))):=ran.old 2 _ _ rfl rfl;have B:=ran.blk (L:=abO st.n (wNm.getD p.nm.toNat "") (Jf p x0 x1 x2 x3).own (Zm (Zw (Jf p x0 x1 x2 x3).own)) (csO p y0 y1)) (by
  show List.map (Option.map (ZA (gOf (ex.length+6) _ _ _))) _=_
  rw [hl];exact Z7l p st.n _ z x0 x1 x2 x3 y0 y1)
 have hS:Has st' s _:=ran.old 0 _ _ rfl rfl;have hn:st'.n=st.n+(11+8*mO y0 y1):=by rw [← hlen]; exact ran.n
 have hmO:8*mO y0 y1≤16:=by rw [← Z2T p]; exact Nat.mul_le_mul_left 8 hm
 refine ⟨st'.gap (16 - 8*mO y0 y1),_,_,ZcE (Zf6 hs hfut m) _,hS.gap,⟨?_,?_,?_,fun i o e=>(B i o e).gap,Zei hok,hm,hcs⟩⟩
 ·show st'.n+(16 - 8*mO y0 y1)=_
  rw [hn,add_assoc,add_assoc,Nat.add_sub_cancel' hmO]
 ·have le1:Le [s,n,n+1] (st.put s (.src a b (J3 p x0 x1 x2 x3 y0 y1 []))) st':=hpr▸ran.le;have le2:=Le.drop (M:=[s,n]) le1 (hc.put hn1) hc2;have le3:Le [s,n] st st':=(Le.put W0d).trans le2;exact ⟨W01 le3.1 (W07 _ _),le3.2⟩
 ·refine Has.gap ?_;have e:=congrArg (fun z=>z.2.2) (Z6g p st.n (idx (s::n::(n+1)::(n+2)::(n+3)::(n+4)::ex)) many k z x0 x1 x2 x3 y0 y1);have hF:Has st' n (ZA (gOf (ex.length+6) _ _ _) _):=ran.old 1 _ _ rfl rfl;rw [hl] at hF;exact (congrArg (Has st' n) e).mp hF
theorem Ze8 (hs:Has st s (.src a b []))(hF:Has st n (.frame F))(hB:FrB st n many k F)(hc:Has st (n+1) (.cell (some (.ref s))))(hn:n+7≤st.n)(hsn:s<n) :
  ∃ (q:Own) (nm:Str) (cs:List (Nat×Nat×Nat)) (st':St) (a' b':Int),Run (T4 nt) (.sts (chB.take 5) (chE n (n+1) 17)) st .nx st'∧Has st' s (.src a' b' [])∧AB st st' s n many k q nm cs:=by
 obtain ⟨p,x0,x1,x2,x3,y0,y1,hok,hcs,hf⟩:=ZdA a b;have nsn:n≠s:=W0a hsn;have ns1:n+1≠s:=W0a (W08 hsn);have hs0:Has (st.put s (.src a b (J3 p x0 x1 x2 x3 y0 y1 []))) s (.src a b (J3 p x0 x1 x2 x3 y0 y1 [])):=Has.put_same hs.1;have hF0:=hF.put (o':=.src a b (J3 p x0 x1 x2 x3 y0 y1 [])) nsn;have hc0:=hc.put (o':=.src a b (J3 p x0 x1 x2 x3 y0 y1 [])) ns1
 have l2:n+2<st.n:=lt_add hn rfl;have l3:n+3<st.n:=lt_add hn rfl;have l4:n+4<st.n:=lt_add hn rfl;rcases hB with rfl | ⟨o,v,h,r,ho,hv,hh,hr,rfl⟩
 ·exact ⟨_,_,_,ZdS (z:=false) (ex:=[]) rfl hs hc hsn hok hcs hf ⟨hs0,hF0,hc0,l2,l3,l4,trivial⟩ rfl⟩
 ·exact ⟨_,_,_,ZdS (z:=true) (ex:=[o,v,h,r]) rfl hs hc hsn hok hcs hf ⟨hs0,hF0,hc0,l2,l3,l4,ho,hv,hh,hr,trivial⟩ rfl⟩
end
theorem Blk.mix {st st':St}(h:Blk st y (u::v::w::R))(k:Le ((y+2)::M) st st')(hm:∀ j,y+j∉M)(h2:Has st' (y+2) o):Blk st' y (u::v::some o::R):=fun i x e =>
 match i,e with
 | 0,e=>(h 0 x e).le k (nmc (ne_add rfl) (hm 0))
 | 1,e=>(h 1 x e).le k (nmc (ne_add rfl) (hm 1))
 | 2,e=>W0g (W0g e)▸h2
 | i+3,e=>(h (i+3) x e).le k (nmc (ne_add rfl) (hm _))
theorem Z6P {M:List Nat}(h:∀ m∈M,m<y):y+j∉M:=fun q=>absurd (h _ q) (W0m (W07 y j))
section
variable {T:Tab}{nt:List Stmt}{st st1:St}{ξ:Z3}{s n:Nat}{a b many k:Int}
theorem Z5w (h:Has st c (.list xs))(hz:xs.length<1000000):JI T ro .append [.ref c,v] st=some (.v .none,st.put c (.list (xs++[v]))):=by
 show (match st.get c with | some (.list xs)=>(match blt xs.length lim with | true=>some (Out.v .none,st.put c (.list (xs++[v]))) | false=>none) | _=>none)=_
 rw [h.2];dsimp only;rw [show blt xs.length lim=true from ble_eq_true_of_le hz]
theorem Z8F (h:Has st c (.list xs)):Qx T ro st (.ref c) "append"=some (.bi .append):=(congrArg (ZjK T ro st "append") (h.rd ro)).trans rfl
theorem Z2u (hfn:Zi ξ.sc.kind=true)(hs:Zq e=false)(hl:beq p2.endLine p3.line=true)(h1:Run T (.ex (.Name x p1) ξ) st (.v (.ref c)) st)(hc0:Has st c (.list ys))(h2:Run T (.ex e ξ) st (.v v) st1)(hc:Has st1 c (.list xs))(hz:xs.length<1000000) :
  Run T (.st (.Expr (.Call (.Attribute (.Name x p1) "append" p2) [e] [] p3) p4) ξ) st .nx (st1.put c (.list (xs++[v]))) :=
 ZdK (v:=.none) rfl hfn (Z42 (a:=.ref c) (f:=.bi .append) rfl (by unfold any;rw [hs]; rfl) hl rfl h1 (fun ro=>Z8F hc0) rfl (Z9 h2) (YY fun ro=>Z5w hc hz))
def cIn (many k:Int)(m:Nat):List (Option MObj) :=
 [some (.frame (YO many k 3 4 5 6 7 8 1)),some (.list ((List.range m).map fun t=>.ref (9+3*t))),none,none,none,none,none,none,none]++(List.range m).flatMap fun t=>[some (.tup [.ref (9+3*t+1),.ref (9+3*t+2)]),none,none]
def ZlZ:Stmt:=Zo 8 chB
def chC:Expr:=match ZlZ with | .Expr (.Call _ (e::_) _ _) _=>e | _=>.Name "" ⟨0,0,0,0⟩
def Zl3 (nt:List Stmt)(many k:Int)(m:Nat):Prop :=
 ZM (T4 nt) 200 (.ex chC (chE 0 2 17)) (cIn many k m) (9+3*m) [9+3*m+1] (.v (.ref (9+3*m+1))) (9+3*m+3) (cIn many k m) [some (.list ((List.range m).map fun t=>.ref (9+3*t+2)))]
theorem Zfb (nt:List Stmt)(many k:Int):Zl3 nt many k 0∧Zl3 nt many k 1∧Zl3 nt many k 2:=⟨⟨∅,∅⟩,⟨∅,∅⟩,⟨∅,∅⟩⟩
noncomputable def Jw (k:Nat):Str:=ofString "#e"++JI.strOf ((k:Int)+1)
theorem Z7r:∀ k:Nat,k<10→Yv (JI.strOf ((k:Int)+1))=true
 | 0,_=>by kernel_rfl | 1,_=>by kernel_rfl | 2,_=>by kernel_rfl | 3,_=>by kernel_rfl | 4,_=>∅
 | 5,_=>by kernel_rfl | 6,_=>by kernel_rfl | 7,_=>by kernel_rfl | 8,_=>by kernel_rfl | 9,_=>∅
 | k+10,h=>absurd h (by omega)
theorem Zf9 (h:blt i.natAbs.log2 1920=true):Run T (.call (.bi .str) [.int i] lev) st (.v (.str (JI.strOf i))) st:=YY fun ro=>by
 show (match blt i.natAbs.log2 1920 with | true=>some (Out.v (.str (JI.strOf i)),st) | false=>none)=_
 rw [h]
theorem Z7s (k:Nat)(h:k<1000):blt ((k:Int)+1).natAbs.log2 1920=true:=by
 have:((k:Int)+1).natAbs.log2<10:=by
  rw [Nat.log2_lt (by omega)]; omega
 exact ble_eq_true_of_le (by omega)
theorem Z72 (hx:Yv x=true)(hy:Yv y=true):XT ro .Add (.str x) (.str y) st=some (.v (.str (x++y)),st):=by
 show (match Yv x,Yv y with | true,true=>some (Out.v (.str (x++y)),st) | _,_=>none)=_
 rw [hx,hy]
theorem Z2t:∀ {es:List (Str×MV)},Z2 x es=none→Zh x v es=es++[(x,v)]
 | [],_=>rfl
 | (k,y)::r,h=>by
  unfold Z2 at h;unfold Zh;by_cases q:k=x
  ·rw [decide_eq_true q] at h;cases h
  ·rw [decide_eq_false q] at h ⊢;show (k,y)::Zh x v r=_;rw [Z2t h]; rfl
theorem Z3G (q:Own):Z2 "href" (Zm (Zw q))=none∧Z2 "xlink:href" (Zm (Zw q))=none:=by
 rcases q with ⟨_ | _,_ | _,_ | _,_ | _⟩<;>exact ⟨∅,∅⟩
theorem Z85 (q:Own):(Zw q).length≤4:=by
 rcases q with ⟨_ | _,_ | _,_ | _,_ | _⟩<;>exact W06 ∅
theorem Z5V (l:List (Str×Str)):(Zm l).length=l.length:=length_map _
theorem Z2n (h:Has st c (.dict es))(hz:es.length≤1000):Xd st (.ref c) (.str x) v (fun st=>some (.u,st))=some (.u,st.put c (.dict (Zh x v es))):=by
 refine (congrArg (Zit st c (.str x) v fun st=>some (Out.u,st)) h.2).trans ?_;show (match ble es.length 1000 with | true=>_ | false=>none)=_;rw [ble_eq_true_of_le hz]
theorem Z8y (st:St)(s l:Nat)(a b t:Int)(rest:List (Int×Int)):(JR st s l a b t rest).n=st.n+2:=rfl
theorem Z6x:Le [s] st (JR st s l a b t rest):=by
 refine ⟨by rw [Z8y]; omega,fun i hi hm=>?_⟩;have:i≠s:=by simpa using hm
 unfold JR;rw [Qh,St.n_put,St.n_push,if_neg (by omega),St.get_put,if_neg this,St.get_push,if_neg (by omega)]
theorem Z4z (h:s<st.n):Has (JR st s l a b t rest) s (.src (nxA a t) (nxB a b) rest):=by
 refine ⟨by rw [Z8y]; omega,?_⟩;unfold JR;rw [Qh,St.n_put,St.n_push,if_neg (by omega),St.get_put,if_pos rfl]
def Zk9:Qu:=⟨490,[(ofString "get",498)],[ofString "name",ofString "attributes",ofString "children",ofString "text"]⟩
def Zlu:Stmt:=Zo 5 chB
theorem ZeI {k o v h r A C:Nat}(hk:k<9)(hm:(k:Int)+1<many)(hs:Has st s (.src a b []))(hF:Has st n (.frame (YO many k (n+2) (n+3) (n+4) o v h r)))(hc:Has st (n+1) (.cell (some (.ref s))))(hh:Has st h (.inst 501 (A+1)))(hd:Has st (A+1) (elD nm A C))(hA:Has st A (.dict (Zm (Zw q)))) :
  ∃ (wd:Bool) (st':St) (a' b':Int),Run (T4 nt) (.st Zlu (chE n (n+1) 17)) st .nx st'∧st'.n=st.n+3∧Has st' s (.src a' b' [])∧Le [s,A] st st'∧Has st' A (.dict (Zm (Zw q)++lkE (some (wd,Jw k)))):=by
 have hd2:=YV a b (t:=2) (by decide)
 let w:List MV:=[.str "href",.str "xlink:href"]
 let st1:=st.push (.list w)
 let st2:=JR (st1.put s (.src a b [(2,dr a b 2)])) s st.n a b 2 []
 have hs1:Has st1 s (.src a b []):=hs.push;have hs1':Has (st1.put s (.src a b [(2,dr a b 2)])) s (.src a b [(2,dr a b 2)]):=Has.put_same hs1.1;have hl1:Has (st1.put s (.src a b [(2,dr a b 2)])) st.n (.list w):=Has.new.put (W0a hs.1)
 (refine xEEA (by
  have:(dr a b 2).toNat=0∨(dr a b 2).toNat=1:=by omega
  rcases this with e | e<;>rw [e]
  ·exact ⟨true,_,rfl,rfl⟩
  ·exact ⟨false,_,rfl,rfl⟩:∃ (wd:Bool) (wt:Str),wt=(if wd then ofString "href" else ofString "xlink:href")∧w[(dr a b 2).toNat]?=some (.str wt)) ?_;intro wd wt hw hv)
 have one:Run (T4 nt) (.call (.old 563) [.ref s,.ref st.n] 17) st1 (.v (.str wt)) st2 :=
  Z7N hs1 (l:=[(2,dr a b 2)]) ⟨by decide,by decide,rfl,trivial⟩ (Z5m (lev:=15) hs1' hl1 rfl (by decide) (by decide) hd2.1 hv)
 have nsA:A≠s:=hA.ne hs nofun;have le1:Le [] st st1:=Le.push;have le2:Le [s] st1 st2:=(Le.put (by simp)).trans Z6x;have hA2:Has st2 A (.dict (Zm (Zw q))):=(hA.le0 le1).le1 le2 nsA;have hs2:Has st2 s (.src (nxA a 2) (nxB a b) []):=Z4z hs1.1;have hereR:∀ p,Run (T4 nt) (.ex (.Name "here" p) (chE n (n+1) 17)) st (.v (.ref h)) st:=fun p=>Za hF ∅ ∅ ∅ ∅;have atR:∀ p,Run (T4 nt) (.ex (.Name "at" p) (chE n (n+1) 17)) st (.v (.int k)) st:=fun p=>Za hF ∅ ∅ ∅ ∅
 have manyR:∀ p,Run (T4 nt) (.ex (.Name "many" p) (chE n (n+1) 17)) st (.v (.int many)) st:=fun p=>Za hF ∅ ∅ ∅ ∅;have srcR:∀ p,Run (T4 nt) (.ex (.Name "source" p) (chE n (n+1) 17)) st (.v (.ref s)) st:=fun p=>Ql (j:=n+1) ∅ ∅ ∅ hc ∅;refine ⟨wd,st2.put A (.dict (Zm (Zw q)++lkE (some (wd,Jw k)))),_,_,?_,rfl,hs2.put (Ne.symm nsA),?_,Has.put_same hA2.1⟩
 ·refine Y8 (d:=true) (ZJ (a:=.int (k+1)) (b:=.int many) rfl (Yd (atR _) (Z4 rfl) fun ro=>rfl) (manyR _) (fun ro=>?_)) (JP (Y3 (a:=.str (Jw k)) rfl (Yd (b:=.str (JI.strOf ((k:Int)+1))) (Z4 rfl) (Zp rfl rfl rfl (Zf (v:=.bi .str) ∅ ∅ ∅ ∅) (Z9 (Yd (v:=.int (k+1)) (atR _) (Z4 rfl) fun ro=>rfl)) (Zf9 (Z7s k (by omega)))) (fun ro=>Z72 ∅ (Z7r k (by omega)))) ?_))
  ·show some (decide ((k:Int)+1<many))=some true
   rw [decide_eq_true hm]
  ·refine Z6m (a:=.ref A) (b:=.str wt) (Z43 (C:=501) (r:=Zk9) (es:=[("name",.str nm),("attributes",.ref A),("children",.ref C),("text",.str "")]) rfl (hereR _) hh rfl ∅ hd ∅) (Zp rfl rfl rfl (Zf (v:=.old 563) ∅ ∅ ∅ ∅) (Zb (srcR _) (Z9 (YW rfl (Zb (Z4 rfl) (Z9 (Z4 rfl))) (by decide)))) one) ?_;rw [Z2n hA2 (by rw [Z5V]; have:=Z85 q;omega)]
   have:=Z3G q
   cases wd with
   | true=>rw [hw,Z2t (show Z2 (if true=true then ofString "href" else ofString "xlink:href") _=none from this.1)]; rfl
   | false=>rw [hw,Z2t (show Z2 (if false=true then ofString "href" else ofString "xlink:href") _=none from this.2)]; rfl
 ·exact ((le1.of0).trans (le2.sub (by simp))).trans (Le.put (by simp))
theorem Zf1 {k o v h r:Nat}(hm:¬ (k:Int)+1<many)(hF:Has st n (.frame (YO many k (n+2) (n+3) (n+4) o v h r))):Run (T4 nt) (.st Zlu (chE n (n+1) 17)) st .nx st:=by
 have atR:∀ p,Run (T4 nt) (.ex (.Name "at" p) (chE n (n+1) 17)) st (.v (.int k)) st:=fun p=>Za hF ∅ ∅ ∅ ∅;have manyR:∀ p,Run (T4 nt) (.ex (.Name "many" p) (chE n (n+1) 17)) st (.v (.int many)) st:=fun p=>Za hF ∅ ∅ ∅ ∅;refine Y8 (d:=false) (ZJ (a:=.int (k+1)) (b:=.int many) rfl (Yd (atR _) (Z4 rfl) fun ro=>rfl) (manyR _) (fun ro=>?_)) Ye;show some (decide ((k:Int)+1<many))=some false
 rw [decide_eq_false hm]
structure EOk (many:Int)(k:Nat)(x:ZK):Prop where
 q:Zk3 x.q
 cs:∀ c∈x.cs,Q8 c
 m:x.cs.length≤2
 lk:((k:Int)+1<many∧∃ wd,x.lk=some (wd,Jw k))∨(¬ (k:Int)+1<many∧x.lk=none)
theorem Z7P:chB=chB.take 5++([Zlu]++[Zo 6 chB,Zo 7 chB,ZlZ]):=∅
theorem ZeL (hm:cs.length≤2)(hF:Has st n (.frame (YO many k (n+2) (n+3) (n+4) o v h (y+10))))(hR:Has st (y+10) (.list (ZiR (y+11) cs)))(hb:Blk st (y+11) (J2 (y+11) cs))(hn:n+7≤y)(hy:y+30≤st.n)(ho:o<st.n)(hv:v<st.n)(hh:h<st.n) :
  ∃ st',Run (T4 nt) (.ex chC (chE n (n+1) 17)) st (.v (.ref st.n)) st'∧Le [] st st'∧st'.n=st.n+1∧Has st' st.n (.list (Zjg (y+11) cs)):=by
 have lo:∀ {i},ble (i+1) 7=true→n+i<st.n:=fun q=>W00 (lt_add hn q) (W01 (W07 y 30) hy);have hi:∀ {i},ble (i+1) 30=true→y+i<st.n:=fun q=>lt_add hy q;have ny:∀ {i},n≠y+i:=W05 (W00 (lt_add0 hn rfl) (W07 y _));have go:∀ {m:Nat} {ex:List Nat} {L:List MV},Zl3 nt many k m→(n::(y+10)::(n+1)::(n+2)::(n+3)::(n+4)::o::v::h::ex).length=9+3*m→ZG st (idx (n::(y+10)::(n+1)::(n+2)::(n+3)::(n+4)::o::v::h::ex)) (n::(y+10)::(n+1)::(n+2)::(n+3)::(n+4)::o::v::h::ex) (cIn many k m) →
   (Zj (n::(y+10)::(n+1)::(n+2)::(n+3)::(n+4)::o::v::h::ex) (cIn many k m)).Nodup→Y1 (below (9+3*m)) (cIn many k m)=true →
   MObj.list L=ZA (gOf (9+3*m) st.n [9+3*m+1] (idx (n::(y+10)::(n+1)::(n+2)::(n+3)::(n+4)::o::v::h::ex))) (.list ((List.range m).map fun t=>.ref (9+3*t+2)))→Zl (gOf (9+3*m) st.n [9+3*m+1] (idx (n::(y+10)::(n+1)::(n+2)::(n+3)::(n+4)::o::v::h::ex))) (.ref (9+3*m+1)) = .ref st.n →
   ∃ st',Run (T4 nt) (.ex chC (chE n (n+1) 17)) st (.v (.ref st.n)) st'∧Le [] st st'∧st'.n=st.n+1∧Has st' st.n (.list L):=by
  intro m ex L hr hl hfit hnd hin e1 e2;unfold Zl3 at hr;rw [← hl] at hr hin e1 e2;obtain ⟨st',mm,ran⟩:=Qn (ZbR nt) hr rfl hfit hnd;rw [e2] at mm;exact ⟨st',mm,ran.keeps hfit hnd hin fun i o hi=>.inl hi,ran.n,e1▸ran.new 0 _ rfl⟩
 match cs,hm,hR,hb with
 | [],_,hR,_=>exact go (ex:=[]) (Zfb nt many k).1 rfl ⟨hF,hR,lo rfl,lo rfl,lo rfl,lo rfl,ho,hv,hh,trivial⟩ (ndc (nm1 ny) (ndc not_mem_nil nodup_nil)) rfl rfl rfl
 | [c0],_,hR,hb=>exact go (ex:=[y+18,y+14,y+17]) (Zfb nt many k).2.1 rfl ⟨hF,hR,lo rfl,lo rfl,lo rfl,lo rfl,ho,hv,hh,hb 7 _ rfl,hi rfl,hi rfl,trivial⟩ (ndc (nmc ny (nm1 ny)) (ndc (nm1 (ne_add rfl)) (ndc not_mem_nil nodup_nil))) rfl rfl rfl
 | [c0,c1],_,hR,hb=>exact go (ex:=[y+18,y+14,y+17,y+26,y+22,y+25]) (Zfb nt many k).2.2 rfl ⟨hF,hR,lo rfl,lo rfl,lo rfl,lo rfl,ho,hv,hh,hb 7 _ rfl,hi rfl,hi rfl,hb 15 _ rfl,hi rfl,hi rfl,trivial⟩ (ndc (nmc ny (nmc ny (nm1 ny))) (ndc (nmc (ne_add rfl) (nm1 (ne_add rfl))) (ndc (nm1 (ne_add rfl)) (ndc not_mem_nil nodup_nil)))) rfl rfl rfl
 | _::_::_::_,hm,_,_=>exact absurd hm (by simp)
end
section
variable {T:Tab}{ξ:Z3}{nt:List Stmt}{st:St}{s n:Nat}{a b many k:Int}
theorem Zeh (hf:Has stx n (.frame (YO many k (n+2) (n+3) (n+4) o v h r)))(hk:kindOf x (chE n (n+1) 17).sc.names=some .local)(hl:Z2 x (YO many k (n+2) (n+3) (n+4) o v h r)=some u)(hd:decide (x=dbg)=false)(p:Pos):Run (T4 nt) (.ex (.Name x p) (chE n (n+1) 17)) stx (.v u) stx :=
 Za hf ∅ hk hl hd
theorem ZfU {k:Nat}(hk:k<9)(hs:Has st s (.src a b []))(hF:Has st n (.frame F))(hB:FrB st n many k F)(hc:Has st (n+1) (.cell (some (.ref s))))(hn:n+7≤st.n)(hsn:s<n)
  (h1:Has st (n+2) (.list xs1)) (h2:Has st (n+3) (.list xs2)) (h3:Has st (n+4) (.list xs3)) (z1:xs1.length<100) (z2:xs2.length<100) (z3:xs3.length<100) :
  ∃ (x:ZK) (st':St) (a' b':Int),EOk many k x∧Run (T4 nt) (.sts chB (chE n (n+1) 17)) st .nx st'∧Has st' s (.src a' b' [])∧Le [s,n,n+2,n+3,n+4] st st'∧st'.n=st.n+31∧Has st' n (.frame (YO many k (n+2) (n+3) (n+4) st.n (st.n+1) (st.n+4) (st.n+10))) ∧
   Has st' (n+2) (.list (xs1++[.ref (st.n+4)]))∧Has st' (n+3) (.list (xs2++[.ref st.n]))∧Has st' (n+4) (.list (xs3++[.ref (st.n+30)]))∧Elt st' x st.n:=by
 obtain ⟨q,nm,cs,st1,a1,b1,rA,s1,B⟩:=Ze8 (nt:=nt) hs hF hB hc hn hsn
 let y:=st.n
 have sn:∀ {i},n+i≠s:=W0a (W00 hsn (W07 n _));have ny:∀ {i},ble (i+1) 7=true→n+i<y:=fun q=>lt_add hn q;have nyi:∀ {i j},ble (i+1) 7=true→n+i≠y+j:=fun q=>W05 (W00 (ny q) (W07 _ _));have n1s:∀ {i},beq i 0=false→n+i∉[s,n]:=fun q=>nmc sn (nm1 (Yq q));have c1:Has st1 (n+1) (.cell (some (.ref s))):=hc.le B.le (n1s rfl)
 have l1:=h1.le B.le (n1s rfl);have l2:=h2.le B.le (n1s rfl);have l3:=h3.le B.le (n1s rfl);have eA:Has st1 (y+2) (.dict (Zm (Zw q))):=B.b 2 _ rfl;have link:∃ (lk:Option (Bool×Str)) (st3:St) (a3 b3:Int),Run (T4 nt) (.sts [Zlu] (chE n (n+1) 17)) st1 .nx st3∧st3.n=st1.n+3∧Has st3 s (.src a3 b3 [])∧Le [s,y+2] st1 st3∧Has st3 (y+2) (.dict (Zm (Zw q)++lkE lk))∧(((k:Int)+1<many∧∃ wd,lk=some (wd,Jw k))∨(¬ (k:Int)+1<many∧lk=none)):=by
  by_cases hm:(k:Int)+1<many
  ·obtain ⟨wd,st3,a3,b3,r3,n3,s3,le3,A3⟩:=ZeI (nt:=nt) hk hm s1 B.fr c1 (B.b 4 _ rfl) (B.b 3 _ rfl) eA;exact ⟨some (wd,Jw k),st3,a3,b3,JP r3,n3,s3,le3,A3,.inl ⟨hm,wd,rfl⟩⟩
  ·exact ⟨none,st1.gap 3,a1,b1,ZcE (JP (Zf1 hm B.fr)) 3,rfl,s1.gap,⟨W07 _ _,fun u0 u0 u0=>rfl⟩,by rw [show lkE none=[] from rfl,append_nil]; exact eA.gap,.inr ⟨hm,rfl⟩⟩
 obtain ⟨lk,st3,a3,b3,r5,n3,s3,le3,A3,lkok⟩:=link;have n3:st3.n=y+30:=by rw [n3,B.num]
 have n13:∀ {i},ble (i+1) 7=true→n+i∉[s,y+2]:=fun q=>nmc sn (nm1 (nyi q));have fr3:=B.fr.le le3 (n13 (i:=0) rfl);have l1:=l1.le le3 (n13 rfl);have l2:=l2.le le3 (n13 rfl);have l3:=l3.le le3 (n13 rfl);have zz:∀ {xs:List MV},xs.length<100→xs.length<1000000:=fun h=>W00 h (by decide)
 let st4:=st3.put (n+2) (.list (xs1++[.ref (y+4)]))
 have r6:Run (T4 nt) (.st (Zo 6 chB) (chE n (n+1) 17)) st3 .nx st4:=Z2u (c:=n+2) ∅ ∅ ∅ (Zeh fr3 ∅ ∅ ∅ _) l1 (Zeh fr3 ∅ ∅ ∅ _) l1 (zz z1);have fr4:Has st4 n _:=fr3.put (ne_add0 rfl);have l2:Has st4 (n+3) (.list xs2):=l2.put (ne_add rfl);have l3:Has st4 (n+4) (.list xs3):=l3.put (ne_add rfl)
 let st5:=st4.put (n+3) (.list (xs2++[.ref y]))
 have r7:Run (T4 nt) (.st (Zo 7 chB) (chE n (n+1) 17)) st4 .nx st5:=Z2u (c:=n+3) ∅ ∅ ∅ (Zeh fr4 ∅ ∅ ∅ _) l2 (Zeh fr4 ∅ ∅ ∅ _) l2 (zz z2);have fr5:Has st5 n _:=fr4.put (ne_add0 rfl);have l3:Has st5 (n+4) (.list xs3):=l3.put (ne_add rfl);have hi2:∀ m∈[s,n+2,n+3],m<y:=cons_all (Nat.lt_trans hsn (ny (i:=0) rfl)) (cons_all (ny rfl) (cons_all (ny rfl) nil_all))
 have le15:Le [y+2,s,n+2,n+3] st1 st5:=((le3.sub (cons_all (.tail _ W0d) (cons_all W0d nil_all))).trans (Le.put (.tail _ (.tail _ W0d)))).trans (Le.put (.tail _ (.tail _ (.tail _ W0d))));have b5:Blk st5 y (abO y nm q (Zm (Zw q)++lkE lk) cs):=B.b.mix le15 (fun j=>Z6P hi2) ((A3.put (nyi rfl).symm).put (nyi rfl).symm)
 obtain ⟨st6,rC,le6,n6,Z6⟩:=ZeL (nt:=nt) (y:=y) B.m fr5 (b5 10 _ rfl) (Blk.right (L:=[_,_,_,_,_,_,_,_,_,_,_]) b5) hn (W0b n3.symm) (W00 (Nat.lt_add_of_pos_right (by decide)) (W0b n3.symm)) (lt_add (W0b n3.symm) rfl) (lt_add (W0b n3.symm) rfl);have n5:st5.n=y+30:=n3;rw [n5] at Z6 n6 rC;have l3':=l3.le0 le6
 let st7:=st6.put (n+4) (.list (xs3++[.ref (y+30)]))
 have r8:Run (T4 nt) (.st ZlZ (chE n (n+1) 17)) st5 .nx st7:=Z2u (c:=n+4) (e:=chC) ∅ ∅ ∅ (Zeh fr5 ∅ ∅ ∅ _) l3 rC l3' (zz z3);have up:∀ {i:Nat} {ob:MObj},Has st5 i ob→i≠n+4→Has st7 i ob:=fun h q=>(h.le0 le6).put q;refine ⟨⟨q,nm,lk,cs⟩,st7,a3,b3,⟨B.q,B.ok,B.m,lkok⟩,?_,up ((s3.put sn.symm).put sn.symm) sn.symm,?_,n6,up fr5 (ne_add0 rfl),up ((Has.put_same l1.1).put (ne_add rfl)) (ne_add rfl),up (Has.put_same l2.1) (ne_add rfl),Has.put_same l3'.1,fun i o e=>up (b5 i o e) (nyi rfl).symm,Z6.put (nyi rfl).symm⟩
 ·rw [Z7P];exact Zdr rA (Zdr r5 (ZV r6 (ZV r7 (JP r8))))
 ·have q0:Le [s,n] st st1:=B.le;have q1:Le [s,n,n+2,n+3,n+4] st st1:=q0.sub (cons_all W0d (cons_all (.tail _ W0d) nil_all));have q2:=q1.then le15 (cons_all (.inr (W07 _ _)) (cons_all (.inl W0d) (cons_all (.inl (.tail _ (.tail _ W0d))) (cons_all (.inl (.tail _ (.tail _ (.tail _ W0d)))) nil_all))))
  exact (q2.trans le6.of0).trans (Le.put (.tail _ (.tail _ (.tail _ (.tail _ W0d)))))
end
section
variable {nt:List Stmt}{st:St}{s n:Nat}{a b:Int}{ξ:Z3}
noncomputable def chH (many:Int)(c w p:Nat):List (Str×MV):=[("many",.int many),("stops",.ref p),("words",.ref w),("chain",.ref c)]
def FrH (st:St)(n:Nat)(many:Int)(F:List (Str×MV)):Prop :=
 F=chH many (n+2) (n+3) (n+4)∨∃ k o v h r,o<st.n∧v<st.n∧h<st.n∧r<st.n∧F=YO many k (n+2) (n+3) (n+4) o v h r
theorem Z60 (h:Has st it (.itRange k (m+1) 1)):Zy T ro st it=some (some (.int k),st.put it (.itRange (k+1) m 1)):=by
 unfold Zy;rw [h.2]
theorem Z3n (h:Has st it (.itRange k 0 1)):Zy T ro st it=some (none,st.del it):=by
 unfold Zy;rw [h.2]
def Els (st:St)(B:Nat)(D:List ZK):Prop:=∀ (i:Nat)(x:ZK),D[i]?=some x→Elt st x (B+31*i)
theorem Els.le (h:Els st B D)(hc:∀ (i:Nat)(x:ZK),D[i]?=some x→x.cs.length≤2)(k:Le M st st')(hm:∀ m∈M,m<B):Els st' B D:=fun i x e =>
 (h i x e).le (hc i x e) k fun j u0=>by rw [add_assoc]; exact Z6P hm
theorem Els.snoc (h:Els st B D)(k:Elt st x (B+31*D.length)):Els st B (D++[x]):=fun i y e=>by
 by_cases q:i<D.length
 ·exact h i y (by rw [List.getElem?_append_left q] at e;exact e)
 ·have:i=D.length:=Nat.le_antisymm (Nat.le_of_lt_succ (by have:=(List.getElem?_eq_some_iff.mp e).1;rw [length_append] at this;exact this)) (Nat.le_of_not_lt q)
  subst this;rw [List.getElem?_concat_length] at e;exact W0g e▸k
noncomputable def J4 (B j k:Nat):List MV:=(List.range k).map fun i=>.ref (B+31*i+j)
theorem Z3V (B j k:Nat):J4 B j k++[.ref (B+31*k+j)]=J4 B j (k+1):=by
 unfold J4;rw [List.range_succ,map_append]; rfl
theorem Z3x (h:k<9):(J4 B j k).length<100:=by
 unfold J4;rw [length_map,length_range];exact Nat.lt_trans h (by decide)
structure ChL (st:St)(s n N k:Nat)(D:List ZK):Prop where
 num:st.n=n+7+31*k
 fr:∃ F,Has st n (.frame F)∧FrH st n N F
 c:Has st (n+1) (.cell (some (.ref s)))
 l1:Has st (n+2) (.list (J4 (n+7) 4 k))
 l2:Has st (n+3) (.list (J4 (n+7) 0 k))
 l3:Has st (n+4) (.list (J4 (n+7) 30 k))
 els:Els st (n+7) D
 len:D.length=k
 ok:∀ i x,D[i]?=some x→EOk N i x
theorem Z3I (hN:N≤9)(hsn:s<n):∀ (m k:Nat)(st:St)(a b:Int)(D:List ZK),k+m=N→Has st s (.src a b [])→Has st (n+6) (.itRange k m 1)→ChL st s n N k D →
  ∃ (st':St) (a' b':Int) (D':List ZK),Run (T4 nt) (.forl chT (n+6) chB (chE n (n+1) 17)) st .nx st'∧Has st' s (.src a' b' [])∧Le [s,n,n+2,n+3,n+4,n+6] st st'∧ChL st' s n N N D'
 | 0,k,st,a,b,D,hk,hs,hit,x=>by
  have hk:k=N:=hk;subst hk;have le:Le [n+6] st (st.del (n+6)):=Le.del W0d;obtain ⟨F,fr,hF⟩:=x.fr;exact ⟨st.del (n+6),a,b,D,Z4e fun ro=>Z3n hit,hs.del (W05 (W00 hsn (W07 _ _))),le.sub (cons_all (.tail _ (.tail _ (.tail _ (.tail _ (.tail _ W0d))))) nil_all),
   x.num,⟨F,fr.del (ne_add0 rfl),hF⟩,x.c.del (ne_add rfl),x.l1.del (ne_add rfl),x.l2.del (ne_add rfl),x.l3.del (ne_add rfl),x.els.le (fun i y e=>(x.ok i y e).m) le (cons_all (add_lt_add_left (by decide) n) nil_all),x.len,x.ok⟩
 | m+1,k,st,a,b,D,hk,hs,hit,x=>by
  obtain ⟨F,fr,hF⟩:=x.fr;have hk9:k<9:=by omega
  have hn:n+7≤st.n:=by rw [x.num]; exact W07 _ _
  have sn:∀ {i},n+i≠s:=W0a (W00 hsn (W07 n _))
  let st1:=st.put (n+6) (.itRange ((k:Int)+1) m 1)
  have hF1:Has st1 n (.frame F):=fr.put (ne_add0 rfl);obtain ⟨F1,hp,hB⟩:∃ F1,Zh "at" (.int k) F=F1∧FrB (st1.put n (.frame F1)) n N k F1:=by
   rcases hF with rfl | ⟨k',o,v,h,r,ho,hv,hh,hr,rfl⟩
   ·exact ⟨_,∅,.inl rfl⟩
   ·exact ⟨YO N k (n+2) (n+3) (n+4) o v h r,∅,.inr ⟨o,v,h,r,ho,hv,hh,hr,rfl⟩⟩
  let st2:=st1.put n (.frame F1)
  have mv:∀ {i:Nat} {ob:MObj},Has st i ob→i≠n+6→i≠n→Has st2 i ob:=fun h q1 q2=>(h.put q1).put q2;obtain ⟨y,st3,a3,b3,hy,rb,s3,le3,n3,fr3,l1,l2,l3,he⟩:=ZfU (nt:=nt) (st:=st2) (many:=N) hk9 (mv hs sn.symm (W05 hsn)) (Has.put_same hF1.1) hB (mv x.c (ne_add rfl) (Yq rfl)) hn hsn (mv x.l1 (ne_add rfl) (Yq rfl)) (mv x.l2 (ne_add rfl) (Yq rfl)) (mv x.l3 (ne_add rfl) (Yq rfl)) (Z3x hk9) (Z3x hk9) (Z3x hk9)
  have n2:st2.n=n+7+31*k:=x.num;rw [n2] at l1 l2 l3 he n3;rw [Z3V] at l1 l3;have l2:Has st3 (n+3) (.list (J4 (n+7) 0 (k+1))):=Z3V (n+7) 0 k▸l2;have le1:Le [s,n,n+2,n+3,n+4,n+6] st st2:=(Le.put (.tail _ (.tail _ (.tail _ (.tail _ (.tail _ W0d)))))).trans (Le.put (.tail _ W0d));have le13:=le1.trans (le3.sub (cons_all W0d (cons_all (.tail _ W0d) (cons_all (.tail _ (.tail _ W0d)) (cons_all (.tail _ (.tail _ (.tail _ W0d))) (cons_all (.tail _ (.tail _ (.tail _ (.tail _ W0d)))) nil_all))))))
  have lowM:∀ m∈[s,n,n+2,n+3,n+4,n+6],m<n+7:=cons_all (W00 hsn (W07 _ _)) (cons_all (Nat.lt_add_of_pos_right (by decide)) (cons_all (add_lt_add_left (by decide) n) (cons_all (add_lt_add_left (by decide) n) (cons_all (add_lt_add_left (by decide) n) (cons_all (add_lt_add_left (by decide) n) nil_all)))));have nin:∀ {i},beq i 0=false→beq i 2=false→beq i 3=false→beq i 4=false→n+i∉[s,n,n+2,n+3,n+4]:=fun q0 q2 q3 q4=>nmc sn (nmc (Yq q0) (nmc (ne_add q2) (nmc (ne_add q3) (nm1 (ne_add q4)))))
  have lt3:∀ {i},ble (i+1) 31=true→n+7+31*k+i<st3.n:=fun q=>by rw [n3]; exact add_lt_add_left (W06 q) _
  obtain ⟨st',a',b',D',rl,g1,g2,g3⟩:=Z3I hN hsn m (k+1) st3 a3 b3 (D++[y]) (by omega) s3 (((Has.put_same hit.1).put (Yq rfl)).le le3 (nin rfl rfl rfl rfl))
   ⟨n3,⟨_,fr3,.inr ⟨k,_,_,_,_,by rw [n2]; exact lt3 (i:=0) rfl,by rw [n2]; exact lt3 rfl,by rw [n2]; exact lt3 rfl,by rw [n2]; exact lt3 rfl,rfl⟩⟩,(mv x.c (ne_add rfl) (Yq rfl)).le le3 (nin rfl rfl rfl rfl),l1,l2,l3,(x.els.le (fun i y e=>(x.ok i y e).m) le13 lowM).snoc (x.len▸he),by rw [length_append,x.len]; rfl,fun i z e=>by
    by_cases q:i<D.length
    ·rw [List.getElem?_append_left q] at e;exact x.ok i z e
    ·have:i=D.length:=Nat.le_antisymm (Nat.le_of_lt_succ (by have:=(List.getElem?_eq_some_iff.mp e).1;rw [length_append] at this;exact this)) (Nat.le_of_not_lt q)
     subst this;rw [List.getElem?_concat_length] at e;exact W0g e▸x.len▸hy⟩
  exact ⟨st',a',b',D',QM (fun ro=>Z60 hit) rfl (ZH hF1 ∅ ∅ hp) rb rl,g1,le13.trans g2,g3⟩
theorem J5 (hL:Has st ξ.loc (.frame m))(hfn:Zi ξ.sc.kind=true)(hk:kindOf x ξ.sc.names=some .local)(hp:Zh x v m=m'):Zx ξ x v st k=k (st.put ξ.loc (.frame m')):=by
 unfold Zx;rw [hfn,hk];dsimp only;rw [hL.2,← hp]
theorem Z3v (hfn:Zi ξ.sc.kind=true)(hk:kindOf x ξ.sc.names=some .cell)(hl:Y6 x ξ.cells=some j)(hj:Has st j (.cell w)):Zx ξ x v st k=k (st.put j (.cell (some v))):=by
 unfold Zx;rw [hfn,hk];dsimp only;rw [hl];show (match st.get j with | some (.cell _)=>_ | _=>none)=_;rw [hj.2]
theorem Z9O:∃ st1,ZO chR [v,.int many] lev st=some (.u,st1)∧st1.n=st.n+2∧Le [] st st1∧Has st1 st.n (.frame [("many",.int many)])∧Has st1 (st.n+1) (.cell (some v)):=by
 let st0:=(st.push (.frame [])).push (.cell none)
 have e:ZO chR [v,.int many] lev st=Zx (chE st.n (st.n+1) lev) "source" v st0 fun st=>Zx (chE st0.n (st0.n+1) lev |> fun u0=>chE (st0.n - 2) (st0.n - 1) lev) "many" (.int many) st fun st=>some (.u,st):=rfl;have hL:Has st0 st.n (.frame []):=Has.new.push;have hC:Has st0 (st.n+1) (.cell none):=Has.new;have hL1:Has (st0.put (st.n+1) (.cell (some v))) st.n (.frame []):=hL.put (by omega)
 refine ⟨(st0.put (st.n+1) (.cell (some v))).put st.n (.frame [("many",.int many)]),?_,rfl,?_,Has.put_same hL1.1,(Has.put_same hC.1).put (by omega)⟩
 ·rw [e,Z3v ∅ ∅ ∅ hC];exact J5 (ξ:=chE st.n (st.n+1) lev) hL1 ∅ ∅ ∅
 ·have q:Le [st.n,st.n+1] st0 ((st0.put (st.n+1) (.cell (some v))).put st.n (.frame [("many",.int many)])):=(Le.put (by simp)).trans (Le.put (by simp));have q0:Le [] st st0:=Le.push.trans Le.push;exact q0.then q (by simp)
def ZlB (nt:List Stmt)(many:Int):Prop :=
 ZM (T4 nt) 200 (.st (Zo 0 chR.body) (chE 0 1 17)) [some (.frame [("many",.int many)]),none] 2 [2,3,4] .nx 6 [some (.frame [("many",.int many),("stops",.ref 4),("words",.ref 3),("chain",.ref 2)]),none] [some (.list []),some (.list []),some (.list [])]
theorem Zfn (nt:List Stmt)(many:Int):ZlB nt many:=⟨∅,∅⟩
theorem Z86:∀ N:Nat,N<10→Builtin.Range.small 0 (N:Int) 1=true∧Builtin.Range.rangeSize 0 (N:Int) 1=N
 | 0,_=>⟨∅,∅⟩ | 1,_=>⟨∅,∅⟩ | 2,_=>⟨∅,∅⟩ | 3,_=>⟨∅,∅⟩ | 4,_=>⟨∅,∅⟩
 | 5,_=>⟨∅,∅⟩ | 6,_=>⟨∅,∅⟩ | 7,_=>⟨∅,∅⟩ | 8,_=>⟨∅,∅⟩ | 9,_=>⟨∅,∅⟩
 | N+10,h=>absurd h (by omega)
theorem Z5b {i N:Nat}(h:Has st i (.rng 0 N 1))(hN:N<10):ZT T ro st (.ref i) (fun i st=>some (.v (.ref i),st))=some (.v (.ref st.n),st.push (.itRange 0 N 1)):=by
 obtain ⟨h1,h2⟩:=Z86 N hN;rw [Z66 h h1 (by rw [h2]; exact decide_eq_true (Int.natCast_nonneg N)),h2];rfl
theorem Zab:chR.body=[Zo 0 chR.body,ZkH,Zo 2 chR.body]:=∅
structure ChR (st:St)(n N:Nat)(D:List ZK):Prop where
 num:st.n=n+8+31*N
 tup:Has st (n+7+31*N) (.tup [.ref (n+2),.ref (n+3),.ref (n+4)])
 l1:Has st (n+2) (.list (J4 (n+7) 4 N))
 l2:Has st (n+3) (.list (J4 (n+7) 0 N))
 l3:Has st (n+4) (.list (J4 (n+7) 30 N))
 els:Els st (n+7) D
 len:D.length=N
 ok:∀ i x,D[i]?=some x→EOk N i x
theorem Z8Q {N:Nat}(hN:N≤9)(hs:Has st s (.src a b [])) :
  ∃ (st':St) (a' b':Int) (D:List ZK),Run (T4 nt) (.call (.old 575) [.ref s,.int N] 18) st (.v (.ref (st.n+7+31*N))) st'∧Has st' s (.src a' b' [])∧Le [s] st st'∧ChR st' st.n N D:=by
 obtain ⟨st1,e1,n1,le1,fr1,c1⟩:=Z9O (st:=st) (lev:=17) (v:=.ref s) (many:=N);have hsn:=hs.1;have hfit:ZG st1 (idx [st.n,st.n+1]) [st.n,st.n+1] [some (.frame [("many",.int N)]),none]:=⟨fr1,by rw [n1]; exact W02 _,trivial⟩;obtain ⟨st2,r2,ran⟩:=Z9N (ZbR nt) (st:=st1) (fl:=[st.n,st.n+1]) (Zfn nt N) rfl hfit (ndc not_mem_nil nodup_nil)
 have n2:st2.n=st.n+5:=by rw [ran.n,n1]; rfl
 have fr2:Has st2 st.n (.frame [("many",.int N),("stops",.ref (st1.n+2)),("words",.ref (st1.n+1)),("chain",.ref (st1.n+0))]):=ran.old 0 _ _ rfl rfl;rw [n1] at fr2;have le2:Le [st.n] st1 st2:=ran.le;have B:Blk st2 (st.n+2) [some (.list []),some (.list []),some (.list [])]:=n1▸ran.blk rfl;have s2:Has st2 s (.src a b []):=(hs.le0 le1).le1 le2 (W05 hsn);have c2:Has st2 (st.n+1) (.cell (some (.ref s))):=c1.le1 le2 (Yq rfl)
 let st3:=st2.push (.rng 0 N 1)
 let st4:=st3.push (.itRange 0 N 1)
 have n3:st3.n=st.n+6:=congrArg (·+1) n2;have n4:st4.n=st.n+7:=congrArg (·+1) n3;have it4:Has st4 (st.n+6) (.itRange ((0:Nat):Int) N 1):=by rw [← n3]; exact Has.new
 have up:∀ {i:Nat} {ob:MObj},Has st2 i ob→Has st4 i ob:=fun h=>h.push.push;obtain ⟨st5,a5,b5,D,rl,g1,g2,x⟩:=Z3I (nt:=nt) (n:=st.n) (N:=N) hN hsn N 0 st4 a b [] (zero_add N) (up s2) it4 ⟨n4,⟨_,up fr2,.inl rfl⟩,up c2,up (B 0 _ rfl),up (B 1 _ rfl),up (B 2 _ rfl),(fun i x e=>nomatch e),rfl,(fun i x e=>nomatch e)⟩;obtain ⟨F5,fr5,hF5⟩:=x.fr;have loc:∀ {x:Str} {v:MV},kindOf x (chE st.n (st.n+1) 17).sc.names=some .local→Z2 x F5=some v→decide (x=dbg)=false→∀ p,Run (T4 nt) (.ex (.Name x p) (chE st.n (st.n+1) 17)) st5 (.v v) st5 :=
  fun hk hl hd p=>Za fr5 ∅ hk hl hd
 have f5:Z2 "chain" F5=some (.ref (st.n+2))∧Z2 "words" F5=some (.ref (st.n+3))∧Z2 "stops" F5=some (.ref (st.n+4)):=by
  rcases hF5 with rfl | ⟨_,_,_,_,_,_,_,_,_,rfl⟩<;>exact ⟨∅,∅,∅⟩
 have le4:Le [s] st st4:=((le1.then le2 (cons_all (.inr (W04 _)) nil_all)).trans (Le.push.trans Le.push)).of0;have hi:∀ {i},(st.n+i∈[s]∨st.n≤st.n+i):=.inr (W07 _ _);have le5:Le [s] st st5:=le4.then g2 (cons_all (.inl W0d) (cons_all (.inr (W04 _)) (cons_all hi (cons_all hi (cons_all hi (cons_all hi nil_all))))));have n5:=x.num;refine ⟨st5.push (.tup [.ref (st.n+2),.ref (st.n+3),.ref (st.n+4)]),a5,b5,D,?_,g1.push,le5.trans Le.push,⟨?_,n5▸Has.new,x.l1.push,x.l2.push,x.l3.push,x.els.le (fun i y e=>(x.ok i y e).m) (M:=[]) Le.push nil_all,x.len,x.ok⟩⟩
 ·rw [← n5];refine Zeo (r:=chR) (o:=.ret (.ref st5.n)) rfl rfl e1 ?_ rfl;rw [Zab];refine ZV r2 (ZV (Z8L (a:=.ref st2.n) (st1:=st3) (st2:=st4) (i:=st.n+6) rfl (Zp rfl rfl rfl (Zf (v:=.bi .range) ∅ ∅ ∅ ∅) (Z9 (Za (v:=.int N) fr2 ∅ ∅ ∅ ∅)) (YY fun ro=>rfl)) (fun ro=>?_) rl) (Y5 (YA (QL rfl (Zb (loc ∅ f5.1 ∅ _) (Zb (loc ∅ f5.2.1 ∅ _) (Z9 (loc ∅ f5.2.2 ∅ _)))) (by show 3≤1000000;decide)))))
  rw [Z5b Has.new (Nat.lt_succ_of_le hN),n3]
 ·show st5.n+1=_
  rw [n5];omega
end
section
variable {nt:List Stmt}{orc:Orc}{st:St}{ξ:Z3}
def El (st:St)(e:Nat)(nm:Str)(a c:Nat)(es:List (Str×MV)):Prop:=∃ d,Has st e (.inst 501 d)∧Has st d (elD nm a c)∧Has st a (.dict es)
theorem El.le (h:El st e nm a c es)(k:Le [] st st'):El st' e nm a c es :=
 xEAA h fun d h1 h2 h3=>⟨d,h1.le0 k,h2.le0 k,h3.le0 k⟩
theorem Z0N (h:El st e nm a c es)(hb:JZ x=true)(h1:Run (Z1 nt orc) (.ex x ξ) st (.v (.ref e)) st):Run (Z1 nt orc) (.ex (.Attribute x "attributes" p) ξ) st (.v (.ref a)) st:=by
 obtain ⟨d,k1,k2,k3⟩:=h;exact Z43 (C:=501) (r:=Zk9) (es:=[("name",.str nm),("attributes",.ref a),("children",.ref c),("text",.str "")]) hb h1 k1 rfl ∅ k2 ∅
theorem Z4m (h:Has st c (.dict es)):Qx T ro st (.ref c) "get"=some (.bi .get):=(congrArg (ZjK T ro st "get") (h.rd ro)).trans rfl
theorem ZaP (h:Has st c (.dict es))(hv:(Z2 x es).getD .none=v):Run T (.call (.bi .get) [.ref c,.str x] lev) st (.v v) st:=YY fun ro=>by
 show (match Y2 ro st (.ref c) with | some es=>some (Out.v ((Z2 x es).getD .none),st) | none=>none)=_
 unfold Y2;dsimp only;rw [h.rd];dsimp only;rw [hv]
theorem Zdl (h:Has st c (.dict es))(hv:(Z2 x es).getD d=v):Run T (.call (.bi .get) [.ref c,.str x,d] lev) st (.v v) st:=YY fun ro=>by
 show (match Y2 ro st (.ref c) with | some es=>some (Out.v ((Z2 x es).getD d),st) | none=>none)=_
 unfold Y2;dsimp only;rw [h.rd];dsimp only;rw [hv]
def lkR:ZF:=Z8 (Ze 36) [] 260 "link_of"
def ZkG:Stmt:=Zo 0 lkR.body
def lkT:Expr:=match ZkG with | .For t _ _ _ _=>t | _=>.Name "" ⟨0,0,0,0⟩
def lkB:List Stmt:=match ZkG with | .For _ _ b _ _=>b | _=>[]
def Jg (L lev:Nat):Z3:=⟨lkR.sc,L,[],lkR.code,ZU lkR.qual,lev⟩
noncomputable def lkM (e:Nat)(nm:Str)(v:MV):List (Str×MV):=[("element",.ref e),("name",.str nm),("told",v)]
def Jx (e:Nat)(nm:Str)(v:MV):MObj:=.frame (lkM e nm v)
def Jh (nt:List Stmt)(nm:Str)(lev:Nat)(v:MV)(o:Out):Prop:=ZM (Z1 nt Y7) 100 (.st (Zo 1 lkB) (Jg 0 lev)) [some (Jx 1 nm v),none] 2 [] o 2 [some (Jx 1 nm v),none] []
noncomputable def lnkTab:List (Str×Str):=[("#e0","e0"),("#e1","e1"),("#e2","e2"),("#e3","e3"),("#e4","e4"),("#e5","e5"),("#e6","e6"),("#e7","e7"),("#e8","e8"),("#none","none")]
theorem ZcV (nt:List Stmt)(nm:Str)(lev:Nat):Jh nt nm lev .none .nx∧Jh nt nm lev (.str "#e0") (.ret (.str "e0"))∧Jh nt nm lev (.str "#e1") (.ret (.str "e1"))∧Jh nt nm lev (.str "#e2") (.ret (.str "e2"))∧Jh nt nm lev (.str "#e3") (.ret (.str "e3"))∧Jh nt nm lev (.str "#e4") (.ret (.str "e4"))∧Jh nt nm lev (.str "#e5") (.ret (.str "e5"))∧Jh nt nm lev (.str "#e6") (.ret (.str "e6"))∧Jh nt nm lev (.str "#e7") (.ret (.str "e7"))∧Jh nt nm lev (.str "#e8") (.ret (.str "e8"))∧Jh nt nm lev (.str "#none") (.ret (.str "none")):=⟨⟨∅,∅⟩,⟨∅,∅⟩,⟨∅,∅⟩,⟨∅,∅⟩,⟨∅,∅⟩,⟨∅,∅⟩,⟨∅,∅⟩,⟨∅,∅⟩,⟨∅,∅⟩,⟨∅,∅⟩,⟨∅,∅⟩⟩
theorem Zdy (nt:List Stmt)(nm:Str)(lev:Nat):∀ p∈lnkTab,Jh nt nm lev (.str p.1) (.ret (.str p.2)):=by
 (refine xAAAAAAAA (ZcV nt nm lev) ?_;intro _ h0 h1 h2 h3 h4 h5 h6 o0;refine xAA o0 ?_;clear o0;intro h7 h8 h9)
 intro e he;unfold lnkTab at he;simp only [mem_cons,not_mem_nil,or_false] at he;rcases he with rfl | rfl | rfl | rfl | rfl | rfl | rfl | rfl | rfl | rfl
 ·exact h0
 ·exact h1
 ·exact h2
 ·exact h3
 ·exact h4
 ·exact h5
 ·exact h6
 ·exact h7
 ·exact h8
 ·exact h9
def Zj6 (es:List (Str×MV)):Option Str→Prop
 | none=>Z2 "href" es=none∧Z2 "xlink:href" es=none
 | some w=>∃ t,(t,w)∈lnkTab∧(Z2 "href" es=some (.str t)∨(Z2 "href" es=none∧Z2 "xlink:href" es=some (.str t)))
noncomputable def Zlz:Option Str→MV
 | none=>.none
 | some w=>.str w
theorem noG:Y4 (Z1 nt Y7):=Y4.none
theorem Yo (h:Run (Z1 nt o1) cmd st o st'):Run (Z1 nt o2) cmd st o st':=fun c W=>Z2V (h c W.orc)
theorem Z7w (hE:El st e n0 a c es)(hL:Has st L (.frame m))(h1:Z2 "element" m=some (.ref e))(h2:Z2 "name" m=some (.str nm))(hp:Zh "told" v m=m')(hv:(Z2 nm es).getD .none=v) :
  Run (Z1 nt orc) (.st (Zo 0 lkB) (Jg L lev)) st .nx (st.put L (.frame m')):=by
 obtain ⟨d,k1,k2,k3⟩:=id hE;refine Y3 rfl (Z42 (a:=.ref a) (f:=.bi .get) rfl rfl rfl rfl (Z0N hE rfl (Za hL ∅ ∅ h1 ∅)) (fun ro=>Z4m k3) rfl (Z9 (Za hL ∅ ∅ h2 ∅)) (ZaP k3 hv)) (ZH hL ∅ ∅ hp)
theorem ZdI (hr:Jh nt nm lev v o)(hL:Has st L (Jx e nm v))(he:e<st.n)(hvv:∀ f,Zl f v=v)(ho:∀ f,Zim f o=o) :
  ∃ st',Run (Z1 nt orc) (.st (Zo 1 lkB) (Jg L lev)) st o st'∧Le [] st st'∧st'.n=st.n:=by
 have hfit:ZG st (idx [L,e]) [L,e] [some (Jx 1 nm v),none]:=by
  refine ⟨?_,he,trivial⟩;show Has st L (.frame [("element",.ref e),("name",.str nm),("told",Zl _ v)]);rw [hvv]; exact hL
 have hin:Y1 (below 2) [some (Jx 1 nm v),none]=true:=by
  have:=hr.chk
  rw [and_eq_true] at this;exact Z1N this.1
 (refine xEA (Z9N noG (st:=st) (fl:=[L,e]) hr rfl hfit (by simp [Zj])) ?_;intro st' m ran)
 rw [ho] at m;exact ⟨st',Yo m,ran.keeps hfit (by simp [Zj]) hin fun i x hi=>.inl hi,ran.n⟩
theorem Z6I (hE:El st e n0 a c es)(hL:Has st L (.frame m))(h1:Z2 "element" m=some (.ref e))(h2:Z2 "name" m=some (.str nm))(hp:Zh "told" .none m=lkM e nm .none)(hv:Z2 nm es=none) :
  ∃ st',Run (Z1 nt orc) (.sts lkB (Jg L lev)) st .nx st'∧Le [L] st st'∧Has st' L (Jx e nm .none):=by
 have he:e<st.n:=xEA hE fun u0 h u0=>h.1;have a1:Run (Z1 nt orc) (.st (Zo 0 lkB) (Jg L lev)) st .nx (st.put L (Jx e nm .none)):=Z7w hE hL h1 h2 hp (by rw [hv]; rfl);have hL4:Has (st.put L (Jx e nm .none)) L (Jx e nm .none):=Has.put_same hL.1;obtain ⟨st4,b1,le4,n4⟩:=ZdI (orc:=orc) (ZcV nt nm lev).1 hL4 he (fun u0=>rfl) (fun u0=>rfl);exact ⟨st4,ZV a1 (JP b1),(Le.put (by simp)).trans le4.of0,hL4.le0 le4⟩
theorem Z62 (hE:El st e n0 a c es)(hL:Has st L (.frame m))(h1:Z2 "element" m=some (.ref e))(h2:Z2 "name" m=some (.str nm))(hp:∀ v,Zh "told" v m=lkM e nm v)(hv:Z2 nm es=some (.str t))(ht:(t,w)∈lnkTab) :
  ∃ st',Run (Z1 nt orc) (.sts lkB (Jg L lev)) st (.ret (.str w)) st'∧Le [L] st st':=by
 have he:e<st.n:=xEA hE fun u0 h u0=>h.1;have a1:Run (Z1 nt orc) (.st (Zo 0 lkB) (Jg L lev)) st .nx (st.put L (Jx e nm (.str t))):=Z7w hE hL h1 h2 (hp _) (by rw [hv]; rfl);have hL4:Has (st.put L (Jx e nm (.str t))) L (Jx e nm (.str t)):=Has.put_same hL.1;obtain ⟨st4,b1,le4,n4⟩:=ZdI (orc:=orc) (Zdy nt nm lev _ ht) hL4 he (fun u0=>rfl) (fun u0=>rfl);exact ⟨st4,ZV a1 (Y5 b1),(Le.put (by simp)).trans le4.of0⟩
theorem Z9Q (hE:El st e n0 a c es)(hr:Zj6 es r) :
  ∃ st',Run (Z1 nt orc) (.call (.old 261) [.ref e] (lev+1)) st (.v (Zlz r)) st'∧Le [] st st':=by
 have he:e<st.n:=xEA hE fun u0 h u0=>h.1
 let L:=st.n
 let st0:=st.push (.frame [("element",.ref e)])
 let tp:List MV:=[.str "href",.str "xlink:href"]
 let st1:=st0.push (.tup tp)
 let st2:=st1.push (.itTup (.ref (L+1)) 0)
 let st3:=(st2.put (L+2) (.itTup (.ref (L+1)) 1)).put L (.frame [("element",.ref e),("name",.str "href")])
 have le02:Le [] st st2:=(Le.push.trans Le.push).trans Le.push;have le3:Le [L,L+2] st2 st3:=(Le.put (by simp)).trans (Le.put (by simp));have le03:Le [] st st3:=le02.then le3 (by simp [L]);have hL0:Has st2 L (.frame [("element",.ref e)]):=Has.new.push.push;have ht2:Has st2 (L+1) (.tup tp):=Has.new.push;have hi2:Has st2 (L+2) (.itTup (.ref (L+1)) 0):=Has.new;have hL3:Has st3 L (.frame [("element",.ref e),("name",.str "href")]):=Has.put_same (by show L<st.n+1+1+1;omega)
 have ht3:Has st3 (L+1) (.tup tp):=(ht2.put (by omega)).put (by omega);have hi3:Has st3 (L+2) (.itTup (.ref (L+1)) 1):=(Has.put_same hi2.1).put (by omega);have hE3:El st3 e n0 a c es:=hE.le le03;have pos:∀ {st':St} {o:Out},Run (Z1 nt orc) (.forl lkT (L+2) lkB (Jg L lev)) st2 o st'→Run (Z1 nt orc) (.st ZkG (Jg L lev)) st0 o st':=fun h =>
  Z8L (a:=.ref (L+1)) (st1:=st1) (st2:=st2) (i:=L+2) rfl (QL rfl (Zb (Z4 rfl) (Z9 (Z4 rfl))) (by show 2≤1000000;decide)) (fun ro=>Z9D Has.new) h
 have x1:∀ ro,Zy (Z1 nt orc) ro st2 (L+2)=some (some (.str "href"),st2.put (L+2) (.itTup (.ref (L+1)) 1)):=fun ro=>Z6s hi2 ht2 rfl;have y1:Run (Z1 nt orc) (.asg lkT (.str "href") (Jg L lev)) (st2.put (L+2) (.itTup (.ref (L+1)) 1)) .u st3:=ZH (hL0.put (by omega)) ∅ ∅ ∅;have ofR:∀ {v:MV} {st':St},Run (Z1 nt orc) (.forl lkT (L+2) lkB (Jg L lev)) st2 (.ret v) st'→Run (Z1 nt orc) (.call (.old 261) [.ref e] (lev+1)) st (.v v) st':=fun h =>
  Ju (r:=lkR) (o:=.ret _) rfl rfl ∅ ∅ ∅ rfl (Y5 (pos h)) rfl
 have second:Z2 "href" es=none→∃ st4 st5,Run (Z1 nt orc) (.sts lkB (Jg L lev)) st3 .nx st4∧st5=(st4.put (L+2) (.itTup (.ref (L+1)) 2)).put L (.frame [("element",.ref e),("name",.str "xlink:href"),("told",.none)])∧(∀ ro,Zy (Z1 nt orc) ro st4 (L+2)=some (some (.str "xlink:href"),st4.put (L+2) (.itTup (.ref (L+1)) 2))) ∧
   Run (Z1 nt orc) (.asg lkT (.str "xlink:href") (Jg L lev)) (st4.put (L+2) (.itTup (.ref (L+1)) 2)) .u st5∧El st5 e n0 a c es∧Has st5 L (.frame [("element",.ref e),("name",.str "xlink:href"),("told",.none)])∧Has st5 (L+1) (.tup tp)∧Has st5 (L+2) (.itTup (.ref (L+1)) 2)∧Le [] st st5:=by
  intro hv;obtain ⟨st4,b4,le4,hL4⟩:=Z6I (nt:=nt) (orc:=orc) (lev:=lev) hE3 hL3 ∅ ∅ ∅ hv;have hi4:=hi3.le le4 (by simp);have ht4:=ht3.le le4 (by simp);have le45:Le [L,L+2] st4 ((st4.put (L+2) (.itTup (.ref (L+1)) 2)).put L (.frame [("element",.ref e),("name",.str "xlink:href"),("told",.none)])):=(Le.put (by simp)).trans (Le.put (by simp));have le35:=(le4.sub (M':=[L,L+2]) (by simp)).trans le45
  have le05:Le [] st _:=le03.then le35 (by simp [L]);refine ⟨st4,_,b4,rfl,fun ro=>Z6s hi4 ht4 rfl,ZH (hL4.put (by omega)) ∅ ∅ ∅,hE.le le05,Has.put_same hL4.1,(ht4.put (by omega)).put (by omega),(Has.put_same hi4.1).put (by omega),le05⟩
 cases r with
 | some w =>
  (refine xEA hr ?_;(try clear hr);intro t ht o0;obtain hh | ⟨hh,hx⟩:=o0)
  ·obtain ⟨st4,b4,le4⟩:=Z62 (nt:=nt) (orc:=orc) (lev:=lev) hE3 hL3 ∅ ∅ (fun v=>∅) hh ht;exact ⟨st4,ofR (Z2Z x1 rfl y1 b4),le03.then le4 (by simp [L])⟩
  ·(refine xEEAAAAAA (second hh) ?_;intro st4 st5 b4 _ x2 y2 hE5 hL5 o1;refine xAA o1 ?_;clear o1;intro ht5 hi5 le5)
   obtain ⟨st6,b6,le6⟩:=Z62 (nt:=nt) (orc:=orc) (lev:=lev) hE5 hL5 ∅ ∅ (fun v=>∅) hx ht;exact ⟨st6,ofR (QM x1 rfl y1 b4 (Z2Z x2 rfl y2 b6)),le5.then le6 (by simp [L])⟩
 | none =>
  obtain ⟨hh,hx⟩:=hr
  (refine xEEAAAAAA (second hh) ?_;intro st4 st5 b4 _ x2 y2 hE5 hL5 o2;refine xAA o2 ?_;clear o2;intro ht5 hi5 le5)
  obtain ⟨st6,b6,le6,hL6⟩:=Z6I (nt:=nt) (orc:=orc) (lev:=lev) hE5 hL5 ∅ ∅ ∅ hx;have x3:∀ ro,Zy (Z1 nt orc) ro st6 (L+2)=some (none,st6.del (L+2)):=fun ro=>Z8G (hi5.le le6 (by simp)) (ht5.le le6 (by simp)) (by show 2≤2;decide);have le7:Le [] st (st6.del (L+2)):=(le5.then le6 (by simp [L])).then (M':=[L+2]) (Le.del (by simp)) (by simp [L]);exact ⟨st6.del (L+2),Ju (r:=lkR) (o:=.ret _) rfl rfl ∅ ∅ ∅ rfl (ZV (pos (QM x1 rfl y1 b4 (QM x2 rfl y2 b6 (Z4e x3)))) (Y5 (YA (Z4 rfl)))) rfl,le7⟩
end
section
variable {nt:List Stmt}{orc:Orc}{st:St}{ξ:Z3}
def liR:ZF:=Z8 (Ze 53) [] 434 "linked"
def liW:Stmt:=Zo 1 liR.body
def liT:Expr:=match liW with | .While t _ _ _=>t | _=>.Name "" ⟨0,0,0,0⟩
def liB:List Stmt:=match liW with | .While _ b _ _=>b | _=>[]
def Ji (L lev:Nat):Z3:=⟨liR.sc,L,[],liR.code,ZU liR.qual,lev⟩
def Nd (st:St)(e:Nat)(r:Option Str):Prop:=∃ nm a c es,El st e nm a c es∧Zj6 es r
theorem Nd.le (h:Nd st e r)(k:Le [] st st'):Nd st' e r:=xEEEEA h fun nm a c es h1 h2=>⟨nm,a,c,es,h1.le k,h2⟩
noncomputable def Yj (st:St)(ids:List (Str×MV)):Nat→List Nat→Prop
 | _,[]=>True
 | e,e'::r=>(∃ w,Nd st e (some w)∧Z2 w ids=some (.ref e'))∧Yj st ids e' r
theorem Yj.le (k:Le [] st st'):∀ {r:List Nat}{e:Nat},Yj st ids e r→Yj st' ids e r
 | [],_,_=>trivial
 | _::_,_,zq2=>by obtain ⟨⟨w,h1,h2⟩,h3⟩:=zq2;exact ⟨⟨w,h1.le k,h2⟩,h3.le k⟩
theorem Z48:∀ (n:Nat)(_:0<n),seqIndex? (-1) n=some (n - 1)
 | m+1,_=>si (j:=m) ((if_pos (by decide)).trans ((congrArg (-1+·) (Int.add_comm m 1)).trans (Int.neg_add_cancel_left 1 m))) (Int.natCast_nonneg m) (Int.ofNat_lt.mpr (W02 m))
theorem Z5h:JH (xs++[v]) (-1)=some v:=by
 rw [Z7Y (i:=-1) (j:=xs.length) ∅ (by rw [Z48 _ (by simp)]; simp)];simp
noncomputable def liF (e I F:Nat)(o:Option MV):List (Str×MV):=(((ofString "element"),MV.ref e):Str×MV)::("ids",.ref I)::("found",.ref F)::(match o with | none=>[] | some v=>[((ofString "other"),v)])
theorem Z1E (e I F:Nat)(o:Option MV):Z2 "ids" (liF e I F o)=some (.ref I)∧Z2 "found" (liF e I F o)=some (.ref F):=by
 induction o using Option.casesOn<;>exact ⟨∅,∅⟩
theorem Z5B (e I F:Nat)(o:Option MV)(v:MV):Zh "other" v (liF e I F o)=liF e I F (some v)∧Z2 "other" (liF e I F (some v))=some v:=by
 induction o using Option.casesOn<;>exact ⟨∅,∅⟩
theorem Z9c (hL:Has st L (.frame (liF e0 I F o)))(hF:Has st F (.list ((pre++[e]).map .ref)))(hN:Nd st e r) :
  ∃ st',(∀ (p1 p2 p3 p4 p5 p6:Pos) (kd:Nat),Run (Z1 nt orc) (.ex (.Call (.Name "link_of" p1) [.Subscript (.Name "found" p2) (.UnaryOp .USub (.Constant (.int 1) kd p3) p4) p5] [] p6) (Ji L (lev+1))) st (.v (Zlz r)) st')∧Le [] st st':=by
 obtain ⟨nm,a,c,es,hE,hl⟩:=hN
 (refine xEA (Z9Q (nt:=nt) (orc:=orc) (lev:=lev) hE hl) ?_;intro st' h le)
 refine ⟨st',fun p1 p2 p3 p4 p5 p6 kd=>Zp rfl rfl rfl (Zf (v:=.old 261) ∅ ∅ ∅ ∅) (Z9 (Yz (a:=.ref F) (b:=.int (-1)) rfl (Za hL ∅ ∅ (Z1E _ _ _ _).2 ∅) (Zc8 (Z4 rfl)) (fun ro=>?_))) h,le⟩;refine Yt hF ?_ ro;rw [map_append];exact Z5h
theorem Z4h (hL:Has st L (.frame (liF e0 I F o)))(hF:Has st F (.list ((pre++[e]).map .ref)))(hN:Nd st e r) :
  ∃ st',Run (Z1 nt orc) (.tst liT (Ji L (lev+1))) st (.b r.isSome) st'∧Le [] st st':=by
 (refine xEA (Z9c (nt:=nt) (orc:=orc) (lev:=lev) hL hF hN) ?_;intro st' h le)
 refine ⟨st',ZJ (a:=Zlz r) (b:=.none) rfl (h _ _ _ _ _ _ _) (Z4 rfl) (fun ro=>?_),le⟩
 induction r using Option.casesOn<;>rfl
theorem Z6y (hL:Has st L (.frame (liF e0 I F o)))(hF:Has st F (.list ((pre++[e]).map .ref)))(hI:Has st I (.dict ids))(hN:Nd st e (some w)) :
  ∃ st',Run (Z1 nt orc) (.st (Zo 0 liB) (Ji L (lev+1))) st .nx st'∧Le [L] st st'∧Has st' L (.frame (liF e0 I F (some ((Z2 w ids).getD .none)))):=by
 obtain ⟨st1,h,le⟩:=Z9c (nt:=nt) (orc:=orc) (lev:=lev) hL hF hN;have hL1:=hL.le0 le;refine ⟨st1.put L (.frame (liF e0 I F (some ((Z2 w ids).getD .none)))),Y3 rfl (Z42 (a:=.ref I) (f:=.bi .get) rfl rfl rfl rfl (Za hL ∅ ∅ (Z1E _ _ _ _).1 ∅) (fun ro=>Z4m hI) rfl (Z9 (h _ _ _ _ _ _ _)) (ZaP (hI.le0 le) rfl)) (ZH hL1 ∅ ∅ (Z5B _ _ _ _ _).1),le.of0.trans (Le.put (by simp)),Has.put_same hL1.1⟩
theorem Z90 (hL:Has st L (.frame (liF e0 I F (some v)))):Run (Z1 nt orc) (.tst (ifT (Zo 1 liB)) (Ji L lev)) st (.b (isNone v)) st :=
 ZJ (a:=v) (b:=.none) rfl (Za hL ∅ ∅ (Z5B _ _ _ none _).2 ∅) (Z4 rfl) fun ro=>rfl
theorem Z9e (hL:Has st L (.frame (liF e0 I F (some v))))(hF:Has st F (.list xs))(hz:xs.length≤1000):Run (Z1 nt orc) (.tst (ifT (Zo 2 liB)) (Ji L lev)) st (.b (decide ((8:Int)≤xs.length))) st :=
 ZJ (a:=.int xs.length) (b:=.int 8) rfl (Zp rfl rfl rfl (Zf (v:=.bi .len) ∅ ∅ ∅ ∅) (Z9 (Za hL ∅ ∅ (Z1E _ _ _ _).2 ∅)) (Z7S hF (by omega))) (Zf (v:=.int 8) ∅ ∅ ∅ ∅) fun ro=>rfl
theorem Z87 (hLF:L≠F)(hL:Has st L (.frame (liF e0 I F o)))(hF:Has st F (.list ((pre++[e]).map .ref)))(hI:Has st I (.dict ids))(hN:Nd st e (some w))(hw:Z2 w ids=some (.ref e'))(hz:pre.length+1<8) :
  ∃ st',Run (Z1 nt orc) (.sts liB (Ji L (lev+1))) st .nx st'∧Le [L,F] st st'∧Has st' L (.frame (liF e0 I F (some (.ref e'))))∧Has st' F (.list ((pre++[e]++[e']).map .ref)):=by
 obtain ⟨st1,h1,le1,hL1⟩:=Z6y (nt:=nt) (orc:=orc) (lev:=lev) hL hF hI hN;rw [hw] at hL1;have hF1:=hF.le le1 (by simp;exact Ne.symm hLF);have t1:=Z90 (nt:=nt) (orc:=orc) (lev:=lev+1) hL1;have t2:=Z9e (nt:=nt) (orc:=orc) (lev:=lev+1) hL1 hF1 (by first | omega | (simp;omega));rw [show decide ((8:Int)≤(((pre++[e]).map MV.ref).length:Int))=false by rw [decide_eq_false_iff_not]; simp;omega] at t2
 refine ⟨st1.put F (.list ((pre++[e]++[e']).map .ref)),ZV h1 (ZV (Y8 t1 Ye) (ZV (Y8 t2 Ye) (JP ?_))),(le1.sub (by simp)).trans (Le.put (by simp)),hL1.put hLF,Has.put_same hF1.1⟩;rw [map_append (l₁:=pre++[e])];exact Z2u ∅ ∅ ∅ (Za hL1 ∅ ∅ (Z1E _ _ _ _).2 ∅) hF1 (Za hL1 ∅ ∅ (Z5B _ _ _ none _).2 ∅) hF1 (by first | omega | (simp;omega))
theorem Z8A (hLF:L≠F)(nL:st0.n≤L)(nF:st0.n≤F)(hI:Has st0 I (.dict ids)):∀ (rest pre:List Nat)(e:Nat)(o:Option MV)(st:St),Le [] st0 st→Yj st0 ids e rest→Nd st0 ((e::rest).getLast (by simp)) none→pre.length+rest.length<8→Has st L (.frame (liF e0 I F o))→Has st F (.list ((pre++[e]).map .ref)) →
  ∃ (st':St) (o':Option MV),Run (Z1 nt orc) (.whl liT liB (Ji L (lev+1))) st .nx st'∧Le [] st0 st'∧Has st' L (.frame (liF e0 I F o'))∧Has st' F (.list ((pre++e::rest).map .ref))
 | [],pre,e,o,st,le,hp,hN,hz,hL,hF=>by
  (refine xEA (Z4h (nt:=nt) (orc:=orc) (lev:=lev) hL hF (hN.le le)) ?_;intro st' h le')
  exact ⟨st',o,Ze0 h,le.trans le',hL.le0 le',hF.le0 le'⟩
 | e'::rest,pre,e,o,st,le,zq6,hN',hz,hL,hF=>by
  obtain ⟨⟨w,hN,hw⟩,hp⟩:=zq6;obtain ⟨st1,h1,le1⟩:=Z4h (nt:=nt) (orc:=orc) (lev:=lev) hL hF (hN.le le);have le01:=le.trans le1;simp only [length_cons] at hz;obtain ⟨st2,h2,le2,hL2,hF2⟩:=Z87 (nt:=nt) (orc:=orc) (lev:=lev) hLF (hL.le0 le1) (hF.le0 le1) ((hI.le0 le01)) (hN.le le01) hw (by omega);obtain ⟨st',o',h',le',hL',hF'⟩:=Z8A hLF nL nF hI rest (pre++[e]) e' _ st2 (le01.then le2 (by simp;exact ⟨nL,nF⟩)) hp (by rwa [List.getLast_cons (by simp)] at hN') (by first | omega | (simp;omega)) hL2 hF2
  rw [append_assoc] at hF';exact ⟨st',o',ZeV h1 h2 h',le',hL',hF'⟩
theorem Z2i (he:e<st.n)(hI:Has st I (.dict ids))(hp:Yj st ids e rest)(hN:Nd st ((e::rest).getLast (by simp)) none)(hz:rest.length<8) :
  ∃ (st':St) (F:Nat),Run (Z1 nt orc) (.call (.old 435) [.ref e,.ref I] (lev+2)) st (.v (.ref F)) st'∧Le [] st st'∧Has st' F (.list ((e::rest).map .ref))∧st.n≤F:=by
 let L:=st.n
 let st0:=st.push (.frame [("element",.ref e),("ids",.ref I)])
 let st1:=st0.push (.list [.ref e])
 let st2:=st1.put L (.frame (liF e I (L+1) none))
 have hL0:Has st1 L (.frame [("element",.ref e),("ids",.ref I)]):=Has.new.push;have hF:Has st2 (L+1) (.list (([]++[e]).map .ref)):=Has.new.put (show st.n+1≠st.n by omega);have hL:Has st2 L (.frame (liF e I (L+1) none)):=Has.put_same hL0.1;have le0:Le [] st st2:=((Le.push.trans Le.push).then (M':=[L]) (Le.put (by simp)) (by simp [L]))
 (refine xEEAAA (Z8A (nt:=nt) (orc:=orc) (lev:=lev) (L:=L) (F:=L+1) (e0:=e) (I:=I) (show st.n≠st.n+1 by omega) (W04 _) (W03 _) hI rest [] e none st2 le0 hp hN (by simpa using hz) hL hF) ?_;intro st' o' h le' hL' hF')
 refine ⟨st',L+1,Ju (r:=liR) (o:=.ret (.ref (L+1))) rfl rfl ∅ ∅ ∅ rfl (ZV (st1:=st2) (Y3 rfl (YW rfl (Z9 (Za (v:=.ref e) Has.new ∅ ∅ ∅ ∅)) (by show 1≤1000000;decide)) (ZH hL0 ∅ ∅ ∅)) (ZV (ZbL h) (Y5 (YA (Za hL' ∅ ∅ (Z1E _ _ _ _).2 ∅))))) rfl,le',hF',W03 _⟩
end
section
variable {nt:List Stmt}{orc:Orc}{st:St}{ξ:Z3}
def geR:ZF:=Z8 (YH 61 1) [.none] 497 "Element.get"
theorem Zcv (h:El st e nm a c es):Qx (Z1 nt orc) ro st (.ref e) "get"=some (.old 498):=by
 obtain ⟨d,k1,k2,k3⟩:=h;refine (congrArg (ZjK (Z1 nt orc) ro st "get") (k1.rd ro)).trans ?_;show (Y2 ro st (.ref d)).bind _=_;rw [Xi (k2.rd ro)];rfl
theorem Z7J (h:El st e nm a c es):Run (Z1 nt orc) (.call (.old 498) [.ref e,.str x] (lev+1)) st (.v ((Z2 x es).getD .none)) (st.push (.frame [("self",.ref e),("name",.str x),("other",.none)])):=by
 have h1:El (st.push (.frame [("self",.ref e),("name",.str x),("other",.none)])) e nm a c es:=h.le Le.push;have hL:Has (st.push (.frame [("self",.ref e),("name",.str x),("other",.none)])) st.n (.frame [("self",.ref e),("name",.str x),("other",.none)]):=Has.new;refine Ju (r:=geR) (o:=.ret _) rfl rfl ∅ ∅ ∅ rfl (Y5 (YA (Z42 (a:=.ref a) (f:=.bi .get) rfl rfl rfl rfl (Z0N h1 rfl (Za hL ∅ ∅ ∅ ∅)) (fun ro=>xEAA h1 fun u0 u0 u0 k3=>Z4m k3) rfl (Zb (Za hL ∅ ∅ ∅ ∅) (Z9 (Za hL ∅ ∅ ∅ ∅))) (xEAA h1 fun u0 u0 u0 k3=>Zdl k3 rfl)))) rfl
noncomputable def Yp (st:St)(x:Str):List Nat→List (Option Str)→Prop
 | [],[]=>True
 | e::r,o::l=>(∃ nm a c es,El st e nm a c es∧Z2 x es=o.map .str)∧Yp st x r l
 | _,_=>False
noncomputable def Zs:List (Option Str)→Option Str
 | []=>none
 | some v::_=>some v
 | none::r=>Zs r
def tbR:ZF:=Z8 (Ze 54) [] 441 "told_by"
def ZkB:Stmt:=Zo 0 tbR.body
def tbT:Expr:=match ZkB with | .For t _ _ _ _=>t | _=>.Name "" ⟨0,0,0,0⟩
def tbB:List Stmt:=match ZkB with | .For _ _ b _ _=>b | _=>[]
def Xx (L lev:Nat):Z3:=⟨tbR.sc,L,[],tbR.code,ZU tbR.qual,lev⟩
noncomputable def tbF (c:Nat)(x:Str)(d:MV)(o:Option MV):List (Str×MV):=(((ofString "elements"),MV.ref c):Str×MV)::("name",.str x)::("other",d)::(match o with | none=>[] | some v=>[((ofString "element"),v)])
theorem Z61 (c:Nat)(x:Str)(d:MV)(o:Option MV):Z2 "name" (tbF c x d o)=some (.str x)∧Z2 "other" (tbF c x d o)=some d:=by
 induction o using Option.casesOn<;>exact ⟨∅,∅⟩
theorem Z8W (c:Nat)(x:Str)(d:MV)(o:Option MV)(v:MV):Zh "element" v (tbF c x d o)=tbF c x d (some v)∧Z2 "element" (tbF c x d (some v))=some v:=by
 induction o using Option.casesOn<;>exact ⟨∅,∅⟩
theorem Z7Z (hLi:L≠it)(nL:st0.n≤L)(nI:st0.n≤it)(hc:Has st0 c (.list xs)):∀ (es:List Nat)(l:List (Option Str))(k:Nat)(o:Option MV)(st:St),Le [] st0 st→Yp st0 x es l→xs.drop k=es.map .ref→Has st L (.frame (tbF c x d o))→Has st it (.itList c k) →
  ∃ (st':St),Run (Z1 nt orc) (.forl tbT it tbB (Xx L (lev+1))) st (match Zs l with | some v=>.ret (.str v) | none=>.nx) st'∧Le [] st0 st'∧∃ o',Has st' L (.frame (tbF c x d o'))
 | [],l,k,o,st,le,ht,hx,hL,hi=>by
  cases l with
  | cons=>exact ht.elim
  | nil =>
   have q:Le [] st0 (st.del it):=le.then (M':=[it]) (Le.del (by simp)) (by simp;exact nI);exact ⟨st.del it,Z4e fun ro=>Z1l hi (hc.le0 le) (drop_eq_nil_iff.mp hx),q,o,hL.del hLi⟩
 | e::es,l,k,o,st,le,ht,hx,hL,hi=>by
  cases l with
  | nil=>exact ht.elim
  | cons v l =>
   obtain ⟨⟨nm,a,cc,ats,hE,hl⟩,ht⟩:=ht;have hk:xs[k]?=some (.ref e):=by
    have:=congrArg head? hx
    simpa using this
   have hx':xs.drop (k+1)=es.map .ref:=by rw [← drop_drop,hx]; rfl
   let st1:=st.put it (.itList c (k+1))
   let st2:=st1.put L (.frame (tbF c x d (some (.ref e))))
   have hL1:Has st1 L (.frame (tbF c x d o)):=hL.put hLi;have hL2:Has st2 L (.frame (tbF c x d (some (.ref e)))):=Has.put_same hL1.1;have hi2:Has st2 it (.itList c (k+1)):=(Has.put_same hi.1).put (Ne.symm hLi);have le02:Le [] st0 st2:=le.then (M':=[it,L]) ((Le.put (by simp)).trans (Le.put (by simp))) (by simp;exact ⟨nI,nL⟩);have hE2:El st2 e nm a cc ats:=hE.le le02
   let st3:=st2.push (.frame [("self",.ref e),("name",.str x),("other",.none)])
   have hE3:El st3 e nm a cc ats:=hE2.le Le.push;have hL3:Has st3 L (.frame (tbF c x d (some (.ref e)))):=hL2.push;have nx:∀ ro,Zy (Z1 nt orc) ro st it=some (some (.ref e),st1):=fun ro=>Z0W hi (hc.le0 le) hk;have as:Run (Z1 nt orc) (.asg tbT (.ref e) (Xx L (lev+1))) st1 .u st2:=ZH hL1 ∅ ∅ (Z8W _ _ _ _ _).1;have getR:∀ {sa:St},El sa e nm a cc ats→Has sa L (.frame (tbF c x d (some (.ref e))))→∀ p p1 p2 p3,beq p2.endLine p.line=true→Run (Z1 nt orc) (.ex (.Call (.Attribute (.Name "element" p1) "get" p2) [.Name "name" p3] [] p) (Xx L (lev+1))) sa (.v ((Z2 x ats).getD .none)) (sa.push (.frame [("self",.ref e),("name",.str x),("other",.none)])) :=
    fun hE hL p p1 p2 p3 hp=>Z42 (a:=.ref e) (f:=.old 498) rfl rfl hp rfl (Za hL ∅ ∅ (Z8W _ _ _ none _).2 ∅) (fun ro=>Zcv hE) rfl (Z9 (Za hL ∅ ∅ (Z61 _ _ _ _).1 ∅)) (Z7J hE)
   cases v with
   | none =>
    have hl:Z2 x ats=none:=hl;have t:Run (Z1 nt orc) (.sts tbB (Xx L (lev+1))) st2 .nx st3:=JP (Y8 (d:=false) (ZJ (a:=(Z2 x ats).getD .none) (b:=.none) rfl (getR hE2 hL2 _ _ _ _ ∅) (Z4 rfl) (fun ro=>by rw [hl]; rfl)) Ye);obtain ⟨st',r,le',o',hL'⟩:=Z7Z hLi nL nI hc es l (k+1) _ st3 (le02.trans Le.push) ht hx' hL3 hi2.push;exact ⟨st',QM nx rfl as t r,le',o',hL'⟩
   | some v =>
    have hl:Z2 x ats=some (.str v):=hl;have t:Run (Z1 nt orc) (.sts tbB (Xx L (lev+1))) st2 (.ret (.str v)) (st3.push (.frame [("self",.ref e),("name",.str x),("other",.none)])):=by
     have:=getR hE3 hL3
     rw [hl] at this;exact Y5 (Y8 (d:=true) (ZJ (a:=(Z2 x ats).getD .none) (b:=.none) rfl (getR hE2 hL2 _ _ _ _ ∅) (Z4 rfl) (fun ro=>by rw [hl]; rfl)) (Y5 (YA (this _ _ _ _ ∅))))
    exact ⟨_,Z2Z nx rfl as t,(le02.trans Le.push).trans Le.push,_,hL3.push⟩
theorem Z1P (hc:Has st c (.list (es.map .ref)))(ht:Yp st x es l) :
  ∃ (st':St),Run (Z1 nt orc) (.call (.old 442) [.ref c,.str x,.str y] (lev+2)) st (.v (.str ((Zs l).getD y))) st'∧Le [] st st':=by
 let st0:=st.push (.frame (tbF c x (.str y) none))
 let st1:=st0.push (.itList c 0)
 have hL:Has st1 st.n (.frame (tbF c x (.str y) none)):=Has.new.push;have hL0:Has st0 st.n (.frame (tbF c x (.str y) none)):=Has.new;have hi:Has st1 (st.n+1) (.itList c 0):=Has.new;have le0:Le [] st st1:=Le.push.trans Le.push
 (refine xEAAE (Z7Z (nt:=nt) (orc:=orc) (lev:=lev) (L:=st.n) (it:=st.n+1) (d:=.str y) (by omega) (W04 _) (W03 _) hc es l 0 none st1 le0 ht rfl hL hi) ?_;intro st' r le' o' hL')
 have f:∀ {o:Out},Run (Z1 nt orc) (.forl tbT (st.n+1) tbB (Xx st.n (lev+1))) st1 o st'→Run (Z1 nt orc) (.st ZkB (Xx st.n (lev+1))) st0 o st':=fun h =>
  Z8L (a:=.ref c) (st1:=st0) (st2:=st1) rfl (Za hL0 ∅ ∅ ∅ ∅) (fun ro=>QN (Has.push hc)) h
 cases hq:Zs l with
 | none =>
  rw [hq] at r;exact ⟨st',Ju (r:=tbR) (o:=.ret (.str y)) rfl rfl ∅ ∅ ∅ rfl (ZV (f r) (Y5 (YA (Za hL' ∅ ∅ (Z61 _ _ _ _).2 ∅)))) rfl,le'⟩
 | some v =>
  rw [hq] at r;exact ⟨st',Ju (r:=tbR) (o:=.ret (.str v)) rfl rfl ∅ ∅ ∅ rfl (Y5 (f r)) rfl,le'⟩
end
section
variable {nt:List Stmt}{orc:Orc}{st:St}{ξ:Z3}
theorem Z1Y (h:Has st j (.tup xs))(hb:YC k xs=some b):ZY T ro st .NotIn (.str k) (.ref j)=some (!b):=by
 show (match rd ro st j with | some (.tup xs)=>Qv (YC k xs) | _=>none)=_
 rw [h.rd];dsimp only;rw [hb]; rfl
theorem ZdW (h:Has st j (.tup xs))(hb:YC k xs=some b):ZY T ro st .In (.str k) (.ref j)=some b:=by
 show (match rd ro st j with | some (.tup xs)=>YC k xs | some (.dict es)=>some (Z2 k es).isSome | some (.fdict es _)=>some (Z2 k es).isSome | _=>none)=_
 rw [h.rd];exact hb
def spR:ZF:=Z8 (Ze 57) [] 460 "spread_of"
theorem Z7i (hc:Has st c (.list (es.map .ref)))(ht:Yp st "spreadMethod" es l)(hk:(Zs l).getD "pad"="pad"∨(Zs l).getD "pad"="repeat"∨(Zs l).getD "pad"="reflect") :
  ∃ (st':St),Run (Z1 nt orc) (.call (.old 461) [.ref c] (lev+3)) st (.v (.str ((Zs l).getD "pad"))) st'∧Le [] st st':=by
 let st0:=st.push (.frame [("elements",.ref c)])
 have hL0:Has st0 st.n (.frame [("elements",.ref c)]):=Has.new;have ht0:Yp st0 "spreadMethod" es l:=by
  have:∀ (es:List Nat) (l:List (Option Str)),Yp st "spreadMethod" es l→Yp st0 "spreadMethod" es l:=by
   intro es
   induction es with
   | nil=>intro l h;cases l with
    | nil=>trivial
    | cons=>exact h.elim
   | cons e r ih=>intro l h;cases l with
    | nil=>exact h.elim
    | cons v l=>(refine xA h ?_;intro o0 h;obtain ⟨nm,a,c,es,h1,h2⟩:=o0);exact ⟨⟨nm,a,c,es,h1.le Le.push,h2⟩,ih l h⟩
  exact this es l ht
 obtain ⟨st1,r1,le1⟩:=Z1P (nt:=nt) (orc:=orc) (lev:=lev) (y:="pad") (Has.push hc) ht0;have hL1:=hL0.le0 le1
 let st2:=st1.put st.n (.frame [("elements",.ref c),("kind",.str ((Zs l).getD "pad"))])
 have hL2:Has st2 st.n (.frame [("elements",.ref c),("kind",.str ((Zs l).getD "pad"))]):=Has.put_same hL1.1
 let st3:=st2.push (.tup [.str "pad",.str "repeat",.str "reflect"])
 have hin:YC ((Zs l).getD "pad") [.str "pad",.str "repeat",.str "reflect"]=some true:=by
  rcases hk with h | h | h<;>rw [h]<;>kernel_rfl
 have le3:Le [] st st3:=((Le.push.trans le1).then (M':=[st.n]) (Le.put (by simp)) (by simp)).trans Le.push;refine ⟨st3,Ju (r:=spR) (o:=.ret _) rfl rfl ∅ ∅ ∅ rfl (ZV (st1:=st2) (Y3 rfl (Zp rfl rfl rfl (Zf (v:=.old 442) ∅ ∅ ∅ ∅) (Zb (Za hL0 ∅ ∅ ∅ ∅) (Zb (Z4 rfl) (Z9 (Z4 rfl)))) r1) (ZH hL1 ∅ ∅ ∅))
  (ZV (st1:=st3) (Y8 (d:=false) (ZJ (a:=.str ((Zs l).getD "pad")) (b:=.ref st2.n) rfl (Za hL2 ∅ ∅ ∅ ∅) (QL rfl (Zb (Z4 rfl) (Zb (Z4 rfl) (Z9 (Z4 rfl)))) (by show 3≤1000000;decide)) (fun ro=>Z1Y Has.new hin)) Ye)
   (Y5 (YA (Za (Has.push hL2) ∅ ∅ ∅ ∅))))) rfl,le3⟩
theorem Yp.le (k:Le [] st st'):∀ {es:List Nat}{l:List (Option Str)},Yp st x es l→Yp st' x es l
 | [],[],_=>trivial
 | _::_,_::_,zq2=>by obtain ⟨⟨nm,a,c,es,h1,h2⟩,h⟩:=zq2;exact ⟨⟨nm,a,c,es,h1.le k,h2⟩,h.le k⟩
 | [],_::_,h=>h.elim
 | _::_,[],h=>h.elim
def bxR:ZF:=Z8 (Ze 58) [.str "gradientUnits",.str "objectBoundingBox"] 468 "is_by_box"
theorem Zbh (hc:Has st c (.list (es.map .ref)))(ht:Yp st "gradientUnits" es l)(hk:(Zs l).getD "objectBoundingBox"="objectBoundingBox"∨(Zs l).getD "objectBoundingBox"="userSpaceOnUse") :
  ∃ (st':St),Run (Z1 nt orc) (.call (.old 469) [.ref c] (lev+3)) st (.v (.bool (seq ((Zs l).getD "objectBoundingBox") "objectBoundingBox"))) st'∧Le [] st st':=by
 let F0:List (Str×MV):=[("elements",.ref c),("name",.str "gradientUnits"),("other",.str "objectBoundingBox")]
 let st0:=st.push (.frame F0)
 have hL0:Has st0 st.n (.frame F0):=Has.new;obtain ⟨st1,r1,le1⟩:=Z1P (nt:=nt) (orc:=orc) (lev:=lev) (y:="objectBoundingBox") (Has.push (o':=.frame F0) hc) (ht.le Le.push);have hL1:=hL0.le0 le1
 let F2:List (Str×MV):=[("elements",.ref c),("name",.str "gradientUnits"),("other",.str "objectBoundingBox"),("told",.str ((Zs l).getD "objectBoundingBox"))]
 let st2:=st1.put st.n (.frame F2)
 have hL2:Has st2 st.n (.frame F2):=Has.put_same hL1.1
 let st3:=st2.push (.tup [.str "objectBoundingBox",.str "userSpaceOnUse"])
 have hin:YC ((Zs l).getD "objectBoundingBox") [.str "objectBoundingBox",.str "userSpaceOnUse"]=some true:=by
  rcases hk with h | h<;>rw [h]<;>kernel_rfl
 have le3:Le [] st st3:=((Le.push.trans le1).then (M':=[st.n]) (Le.put (by simp)) (by simp)).trans Le.push;refine ⟨st3,Ju (r:=bxR) (o:=.ret _) rfl rfl ∅ ∅ ∅ rfl (ZV (st1:=st2) (Y3 rfl (Zp rfl rfl rfl (Zf (v:=.old 442) ∅ ∅ ∅ ∅) (Zb (Za (v:=.ref c) hL0 ∅ ∅ ∅ ∅) (Zb (Za (v:=.str "gradientUnits") hL0 ∅ ∅ ∅ ∅) (Z9 (Za (v:=.str "objectBoundingBox") hL0 ∅ ∅ ∅ ∅)))) r1) (ZH hL1 ∅ ∅ ∅))
  (ZV (st1:=st3) (Y8 (d:=false) (ZJ (a:=.str ((Zs l).getD "objectBoundingBox")) (b:=.ref st2.n) rfl (Za hL2 ∅ ∅ ∅ ∅) (QL rfl (Zb (Z4 rfl) (Z9 (Z4 rfl))) (by show 2≤1000000;decide)) (fun ro=>Z1Y Has.new hin)) Ye)
   (Y5 (YA (Zao (a:=.str ((Zs l).getD "objectBoundingBox")) (b:=.str "objectBoundingBox") rfl (Za (Has.push hL2) ∅ ∅ ∅ ∅) (Z4 rfl) (fun ro=>rfl)))))) rfl,le3⟩
theorem Zbv (hl:Q6 t w lenTab=some (p,q))(hi:Has st i (.tup [.int w,.int 1]))(hv:5≤lev):Run (Z1 nt orc) (.call (.old 306) [.str t,.ref i] lev) st (.v (.ref st.n)) (st.push (.tup [.int p,.int q])):=by
 intro c W;refine Zfh nt c orc W _ _ _ _ _ _ ?_;show gB (beq 306 306&&ble 5 lev) (Zmd t st (.ref i))=_;rw [show ble 5 lev=true from ble_eq_true_of_le hv];show Zlm (st.get i) _=_;rw [hi.2];show gO (Q6 t w lenTab) _=_;rw [hl];rfl
def nuR:ZF:=Z8 (Ze 59) [] 475 "number_told"
noncomputable def Zld:Qu:=⟨519,[],[ofString "width",ofString "height"]⟩
structure Xy (st:St)(f w h:Nat):Prop where
 ex:∃ d,Has st f (.inst 538 d)∧Has st d (.dict [("width",.ref w),("height",.ref h)])
 w:Has st w (.tup [.int 30,.int 1])
 h:Has st h (.tup [.int 70,.int 1])
theorem Xy.le {st':St}{f w h:Nat}(x:Xy st f w h)(k:Le [] st st'):Xy st' f w h:=⟨xEA x.ex fun d h1 h2=>⟨d,h1.le0 k,h2.le0 k⟩,x.w.le0 k,x.h.le0 k⟩
def ZjA:List MV:=[.str "y1",.str "y2",.str "cy",.str "fy",.str "y",.str "height"]
theorem Z3W (hc:Has st c (.list (es.map .ref)))(ht:Yp st x es l)(hf:Xy st f w h)(hb:YC x ZjA=some b)(hl:Q6 ((Zs l).getD y) (if b then 70 else 30) lenTab=some (p,q)) :
  ∃ (st':St) (r:Nat),Run (Z1 nt orc) (.call (.old 476) [.ref c,.str x,.str y,.ref f] (lev+6)) st (.v (.ref r)) st'∧Le [] st st'∧Has st' r (.tup [.int p,.int q]):=by
 let F0:List (Str×MV):=[("elements",.ref c),("name",.str x),("other",.str y),("frame",.ref f)]
 let st0:=st.push (.frame F0)
 let st1:=st0.push (.tup ZjA)
 let wh:Nat:=if b then h else w
 let F2:List (Str×MV):=[("elements",.ref c),("name",.str x),("other",.str y),("frame",.ref f),("whole",.ref wh)]
 let st2:=st1.put st.n (.frame F2)
 have hL0:Has st0 st.n (.frame F0):=Has.new;have hL1:Has st1 st.n (.frame F0):=hL0.push;have hL2:Has st2 st.n (.frame F2):=Has.put_same hL1.1;have le1:Le [] st st1:=Le.push.trans Le.push;have le2:Le [] st st2:=le1.then (M':=[st.n]) (Le.put (by simp)) (by simp);have hf1:=hf.le le1;obtain ⟨d,i1,i2⟩:=hf1.ex;obtain ⟨st3,r3,le3⟩:=Z1P (nt:=nt) (orc:=orc) (lev:=lev+3) (y:=y) (hc.le0 le2) (ht.le le2)
 have hw:Has st3 wh (.tup [.int (if b then 70 else 30),.int 1]):=by
  cases b with
  | true=>exact ((hf.le le2).le le3).h
  | false=>exact ((hf.le le2).le le3).w
 have rl:=Zbv (nt:=nt) (orc:=orc) (lev:=lev+5) hl hw (by omega);have rw_:Run (Z1 nt orc) (.ex (match Zo 0 nuR.body with | .Assign _ v _=>v | _=>.Name "" ⟨0,0,0,0⟩) (Zv nuR st.n (lev+5))) st0 (.v (.ref wh)) st1:=by
  refine Z2f (d:=b) (ZJ (a:=.str x) (b:=.ref st0.n) rfl (Za hL0 ∅ ∅ ∅ ∅) (QL rfl (Zb (Z4 rfl) (Zb (Z4 rfl) (Zb (Z4 rfl) (Zb (Z4 rfl) (Zb (Z4 rfl) (Z9 (Z4 rfl))))))) (by show 6≤1000000;decide)) (fun ro=>ZdW Has.new hb)) ?_
  cases b with
  | true=>exact Z43 (C:=538) (r:=Zld) rfl (Za (v:=.ref f) hL1 ∅ ∅ ∅ ∅) i1 rfl ∅ i2 ∅
  | false=>exact Z43 (C:=538) (r:=Zld) rfl (Za (v:=.ref f) hL1 ∅ ∅ ∅ ∅) i1 rfl ∅ i2 ∅
 refine ⟨st3.push (.tup [.int p,.int q]),st3.n,Ju (r:=nuR) (o:=.ret (.ref st3.n)) rfl rfl ∅ ∅ ∅ rfl (ZV (st1:=st2) (Y3 (a:=.ref wh) rfl rw_ (ZH hL1 ∅ ∅ ∅)) (Y5 (YA (Zp rfl rfl rfl (Zf (v:=.old 306) ∅ ∅ ∅ ∅) (Zb (Zp rfl rfl rfl (Zf (v:=.old 442) ∅ ∅ ∅ ∅) (Zb (Za hL2 ∅ ∅ ∅ ∅) (Zb (Za hL2 ∅ ∅ ∅ ∅) (Z9 (Za hL2 ∅ ∅ ∅ ∅)))) r3) (Z9 (Za (hL2.le0 le3) ∅ ∅ ∅ ∅))) rl)))) rfl,(le2.trans le3).trans Le.push,Has.new⟩
def JS (nt:List Stmt)(t:Str)(w a b:Int):Prop:=∃ k n,ZM (Z1 nt Y7) 100 (.call (.old 587) [.str t,.int w] 2) [] 0 [k] (.v (.ref k)) n [] [some (.tup [.int a,.int b])]
def JT (nt:List Stmt)(p q a b:Int):Prop:=∃ n,ZM (Z1 nt Y7) 100 (.call (.old 594) [.ref 0,.ref 1] 2) [some (.tup [.int p,.int q]),some (.tup [.int a,.int b])] 2 [] (.v (.bool true)) n [some (.tup [.int p,.int q]),some (.tup [.int a,.int b])] []
theorem Xz (nt:List Stmt):JS nt "3" 30 (3) 1∧JS nt "50%" 30 (1500) 100∧JS nt "-25%" 30 (-750) 100∧JS nt "0%" 30 (0) 100∧JS nt "7" 70 (7) 1∧JS nt "10%" 70 (700) 100∧JS nt "50%" 70 (3500) 100:=⟨⟨1,2,∅,∅⟩,⟨1,2,∅,∅⟩,⟨1,2,∅,∅⟩,⟨1,2,∅,∅⟩,⟨1,2,∅,∅⟩,⟨1,2,∅,∅⟩,⟨1,2,∅,∅⟩⟩
theorem XA (nt:List Stmt):JT nt (3) 1 (3) 1∧JT nt (15) 1 (1500) 100∧JT nt (-15) 2 (-750) 100∧JT nt (0) 1 (0) 100∧JT nt (7) 1 (7) 1∧JT nt (7) 1 (700) 100∧JT nt (35) 1 (3500) 100:=⟨⟨3,∅,∅⟩,⟨3,∅,∅⟩,⟨3,∅,∅⟩,⟨3,∅,∅⟩,⟨3,∅,∅⟩,⟨3,∅,∅⟩,⟨3,∅,∅⟩⟩
def Qq (t:Str)(w:Int):Prop:=∃ p q,Q6 t w lenTab=some (p,q)∧∀ nt,∃ a b,JS nt t w a b∧JT nt p q a b
theorem Zek:Qq "3" 30∧Qq "50%" 30∧Qq "-25%" 30∧Qq "0%" 30∧Qq "7" 70∧Qq "10%" 70∧Qq "50%" 70:=by
 refine ⟨?_,?_,?_,?_,?_,?_,?_⟩
 ·exact ⟨(3),1,∅,fun nt=>⟨_,_,(Xz nt).1,(XA nt).1⟩⟩
 ·exact ⟨(15),1,∅,fun nt=>⟨_,_,(Xz nt).2.1,(XA nt).2.1⟩⟩
 ·exact ⟨(-15),2,∅,fun nt=>⟨_,_,(Xz nt).2.2.1,(XA nt).2.2.1⟩⟩
 ·exact ⟨(0),1,∅,fun nt=>⟨_,_,(Xz nt).2.2.2.1,(XA nt).2.2.2.1⟩⟩
 ·exact ⟨(7),1,∅,fun nt=>⟨_,_,(Xz nt).2.2.2.2.1,(XA nt).2.2.2.2.1⟩⟩
 ·exact ⟨(7),1,∅,fun nt=>⟨_,_,(Xz nt).2.2.2.2.2.1,(XA nt).2.2.2.2.2.1⟩⟩
 ·exact ⟨(35),1,∅,fun nt=>⟨_,_,(Xz nt).2.2.2.2.2.2,(XA nt).2.2.2.2.2.2⟩⟩
theorem ZaC (h:JS nt t w a b):∃ st',Run (Z1 nt orc) (.call (.old 587) [.str t,.int w] (lev+2)) st (.v (.ref st.n)) st'∧Le [] st st'∧Has st' st.n (.tup [.int a,.int b]):=by
 obtain ⟨k,n,hr⟩:=h
 (refine xEA (Z2b noG (st:=st) (fl:=[]) hr rfl trivial (by simp [Zj])) ?_;intro st' m ran)
 have e:Zl (gOf ([]:List Nat).length st.n [k] (idx [])) (.ref k) = .ref st.n:=congrArg MV.ref (Z4d 0 rfl);rw [e] at m;exact ⟨st',Yo (Zcy m (by omega)),ran.le,ran.new 0 _ rfl⟩
theorem ZaQ (h:JT nt p q a b)(h1:Has st i (.tup [.int p,.int q]))(h2:Has st j (.tup [.int a,.int b]))(hij:i≠j):∃ st',Run (Z1 nt orc) (.call (.old 594) [.ref i,.ref j] (lev+2)) st (.v (.bool true)) st'∧Le [] st st':=by
 obtain ⟨n,hr⟩:=h;have hfit:ZG st (idx [i,j]) [i,j] [some (.tup [.int p,.int q]),some (.tup [.int a,.int b])]:=⟨h1,h2,trivial⟩;have hnd:(Zj [i,j] [some (.tup [.int p,.int q]),some (.tup [.int a,.int b])]).Nodup:=by show [i,j].Nodup;simp [hij]
 (refine xEA (Z2b noG (st:=st) (fl:=[i,j]) hr rfl hfit hnd) ?_;intro st' m ran)
 exact ⟨st',Yo (Zcy m (by omega)),ran.keeps hfit hnd rfl fun i o hi=>.inl hi⟩
end
theorem Z32:entryFor table "dict.update.loop"=some Builtin.«dict.update.loop»:=entryFor_of_tree ∅
theorem Z12:plainId "dict.update.loop"=true:=by decide +kernel
theorem Z4V:typeLookup (.type "list") "keys"=pure none:=by rw [typeLookup_type,builtinLookup_eq_fast]; kernel_rfl
section
variable {prog:Program}{w:World}{A:Around}{E:Value→Shared→Prop}{s:Shared}
theorem Z94 (hx:s.heap.get? a=some { cls:=.type "list",data:=.seq xs k })(hA:A.handled=none)
  (h:∀ h' tk,(∀ b o,s.heap.get? b=some o→h'.get? b=some o)→Q none { s with heap:=h',toks:=tk }):wpAny (model prog w) A (getAttr? (.ref a) "keys") Q E s:=by
 obtain ⟨hp,g,d,tk,os⟩:=s;have hT:∀ tk',(⟨hp,g,d,tk',os⟩:Shared).TypeIs (.ref a) "list":=fun u0=>⟨_,hx,rfl⟩;have f1:=sub_AttributeError;have f3:=F.slot_list_getattribute.lookup;have f4:=F.slot_list_getattribute.bind (.ref a);have f5:=am_list_getattr_none
 repeat (any_goals (first | assumption | exact hT _ | ((with_reducible show wpAny _ _ (call (Value.builtin "list.__getattribute__") _ _) _ _ _);refine call_meets F.slot_list_getattribute (hT _) am_entry_list_getattribute (F.args_list_getattribute_2 _ _) (meets_getattribute_miss_list a xs k #[] "keys" _ Z4V (by decide +kernel)) ⟨hx,hA,fun h' tk' e hx'=>?_⟩) | wp_step))
 (refine xEE (hx'.there) ?_;intro t' u' he)
 show wpAny _ _ (getattributeRaised _ _ _ _ _ _ _) _ _ _
 unfold getattributeRaised
 repeat (any_goals (first | assumption | wp_step))
 exact h _ _ hx'.keeps
section
variable {c:Cfg}{T:Tab}{ρ:Rho}{st st' st1:St}
theorem XB (h:j≠i):(st.put i o).get j=st.get j:=(St.get_put o j).trans (if_neg h)
theorem Z47:(st.put i o).get i=some o:=(St.get_put o i).trans (if_pos rfl)
noncomputable def Qr (st:St):List MV→List (Str×MV)→Prop
 | [],[]=>True
 | x::r,(k,v)::ps=>(∃ t,x = .ref t∧st.get t=some (.tup [.str k,v]))∧Qr st r ps
 | _,_=>False
theorem Qr.mono (h:∀ t o,st.get t=some (.tup o)→st'.get t=some (.tup o)):∀ {r:List MV}{q:List (Str×MV)},Qr st r q→Qr st' r q
 | [],[],_=>trivial
 | [],_::_,p=>p.elim
 | _::_,[],p=>p.elim
 | _::_,_::_,p=>⟨p.1.imp fun u0 e=>⟨e.1,h _ _ e.2⟩,mono h p.2⟩
theorem Z6N (key:Str)(v:MV):∀ es:List (Str×MV),(Zh key v es).length≤es.length+1
 | []=>W04 _
 | (a,b)::es=>by
  unfold Zh
  cases decide (a=key) using Bool.casesOn with
  | true=>exact W03 _
  | false=>exact Nat.succ_le_succ (Z6N key v es)
set_option backward.match.sparseCases true in
theorem Z4X (C:c.Ok)(hdi:d≠it)(hld:l≠d)(hli:l≠it):∀ (rest:List MV)(ps:List (Str×MV))(k:Nat)(es:List (Str×MV))(st:St)(s:Shared)(i:Int)(tk:Tok)(A:Around)(RR:Result→Shared→Prop),A.handled=none→xs.drop k=rest→Qr st rest ps→st.get l=some (.list xs)→st.get it=some (.itList l k)→st.get d=some (.dict es)→es.length+rest.length≤1000→Rel c ρ st s →
  (∀ s' st',st'.n=st.n→(∀ j,st'.get j=if j=it then none else if j=d then some (.dict (putAll ps es)) else st.get j)→Rel c ρ st' s'→RR (.ok (.ret .none)) s') →
  codeAny (model c.prog c.w) A (.builtin "dict.update.loop" ⟨[.ref (ρ.a d),.ref (ρ.a it),.int i tk,.none],[]⟩) RR s
 | [],ps,k,es,st,s,i,tk,A,RR,hA,hx,hp,hl,hi,hd,hz,R,h=>by
  have e:ps=[]:=by cases ps with | nil=>rfl | cons=>exact hp.elim
  subst e;refine codeAny_builtin Z32 ?_;rw [Around.under_plainId Z12 _]
  (refine xAA (R.at_ _ _ hl) ?_;intro hln o0 _;obtain ⟨vs,ep,e1,e2⟩:=o0)
  (refine xAA (R.at_ _ _ hi) ?_;intro _ o1 _;obtain ⟨_,hit⟩:=o1)
  have ht:s.heap.IsList (ρ.a l) vs:=⟨_,e1,rfl,_,rfl⟩;show wpAny _ _ (pyNext (.ref (ρ.a it)) >>= _) _ _ _;refine W0j (wpAny_pyNext_list_end hA hit ht ?_ fun h' he=>?_)
  ·have hlen:=e2.length;simp only [length_toList] at hlen;simp only [Array.getElem?_eq_none_iff];rw [hlen];exact drop_eq_nil_iff.mp hx
  ·show wpAny _ _ (Builtin.Dict.addKeywords _ [] >>= _) _ _ _
   refine W0j (W0k (W0k ?_));refine h _ (st.del it) rfl (fun j=>?_) (R.drop (h':=h') s.toks hi (fun b ob hb e=>he b ob hb e) (.inl rfl));rw [St.get_del];by_cases q:j=it
   ·rw [if_pos q,if_pos q]
   ·rw [if_neg q,if_neg q];by_cases q':j=d
    ·rw [if_pos q',q',hd]; rfl
    ·rw [if_neg q']
 | x::rest,ps,k,es,st,s,i,tk,A,RR,hA,hx,hp,hl,hi,hd,hz,R,h=>by
  cases ps with
  | nil=>exact hp.elim
  | cons p ps =>
  obtain ⟨key,v⟩:=p;obtain ⟨⟨t,rfl,htup⟩,hp⟩:=hp;refine codeAny_builtin Z32 ?_;rw [Around.under_plainId Z12 _];obtain ⟨hln,⟨vs,ep,e1,e2⟩,_⟩:=R.at_ _ _ hl;obtain ⟨_,⟨_,hit⟩,_⟩:=R.at_ _ _ hi;have ht:s.heap.IsList (ρ.a l) vs:=⟨_,e1,rfl,_,rfl⟩;have hk:xs[k]?=some (.ref t):=by
   have:=congrArg head? hx
   simpa using this
  obtain ⟨w0,hw0,hw1⟩:=e2.get hk;obtain ⟨htn,rfl⟩:=hw1;show wpAny _ _ (pyNext (.ref (ρ.a it)) >>= _) _ _ _;refine W0j (wpAny_pyNext_list_item hit ht (by simpa using hw0) fun h' i' sb=>?_);have R1:Rel c ρ (st.put it (.itList l (k+1))) { s with heap:=h' }:=Qe R hi s.toks sb ⟨hln,i'⟩;have hti:t≠it:=fun q=>by subst q;rw [htup] at hi;cases hi
  have htd:t≠d:=fun q=>by subst q;rw [htup] at hd;cases hd
  have htup1:(st.put it (.itList l (k+1))).get t=some (.tup [.str key,v]):=by rw [St.get_put,if_neg hti]; exact htup
  have hd1:(st.put it (.itList l (k+1))).get d=some (.dict es):=by rw [St.get_put,if_neg hdi]; exact hd
  obtain ⟨_,⟨us,ep',u1,u2⟩,_⟩:=R1.at_ _ _ htup1;obtain ⟨y1,y2,u3,⟨tkk,rfl⟩,hy2⟩:=ZdU u2;have hpair:us.toList=[.str key tkk,y2]:=u3;have hTt:({ s with heap:=h' }:Shared).TypeIs (.ref (ρ.a t)) "tuple":=⟨_,u1,rfl⟩;refine W0j (wpAny_holding ?_);refine W0j (wpAny_tryCatch ?_);unfold Builtin.Dict.pairItems;refine W0j (wpAny_typeOf hTt ?_);rw [if_pos (by decide)]
  refine W0j (wpAny_seqItems u1 rfl (W0k ?_));show wpAny _ _ (match us.toList with | [k,v]=>_ | l=>_) _ _ _;rw [hpair];obtain ⟨_,⟨kvs,ep2,d1,d2⟩,_⟩:=R1.at_ _ _ hd1;refine wpAny_holding (wpAny_dictSet_pairs (knd:=PySem.strKind c.prog c.w) (QG key tkk) d1.dictOf (fun h'' hd' sb'=>?_) ?_)
  ·have R2:=Z1F (h':=h'') R1 hd1 (s.toks+1) hd' sb' (d2.put hy2 d1.nodup);refine W0k ⟨plainId_quiet Z12 _,?_⟩;refine Z4X (xs:=xs) C hdi hld hli rest ps (k+1) (Zh key v es) _ _ (i+1) _ A RR hA ?_ ?_ ?_ ?_ ?_ ?_ R2 fun s' st' k1 k2 R'=>?_
   ·rw [← drop_drop,hx]; rfl
   ·exact hp.mono fun t o ht=>(XB fun z=>nomatch (z▸ht).symm.trans hd).trans ((XB fun z=>nomatch (z▸ht).symm.trans hi).trans ht)
   ·exact (XB hld).trans ((XB hli).trans hl)
   ·exact (XB (Ne.symm hdi)).trans Z47
   ·exact Z47
   ·exact W01 (Nat.add_le_add_right (Z6N key v es) _) (by rw [Nat.add_right_comm]; exact hz)
   ·refine h s' st' k1 (fun j=>(k2 j).trans (ite_congr rfl (fun u0=>rfl) fun q=>ite_congr rfl (fun u0=>rfl) fun q'=>(XB q').trans (XB q))) R'
  ·have:=d2.length
   simp only [length_cons] at hz;unfold sizeLine;omega
theorem Z4r (W:Z5 c T)(hl:st.get l=some (.list xs))(hp:Qr st xs ps)(hz:xs.length≤1000) :
  Z0 c T (.call (.bi .dict) [.ref l] lev) st (.v (.ref st.n)) (Yx (st.push (.dict (putAll ps []))) none):=by
 intro A ρ s E fv vs0 rm R hf ha
 (refine xEAA (Zep ha) ?_;intro v0 o0 hlt o1;subst o0;subst o1)
 cases hf
 have C:=W.C
 (refine xAA (R.at_ _ _ hl) ?_;intro _ o2 _;obtain ⟨vs,ep,e1,e2⟩:=o2)
 show wpAny _ _ (call (.type "dict") _) _ _ _
 refine callType_codes (Q₁:=fun obj s₁=>obj = .ref s.heap.objs.size∧s₁={ s with heap:=s.heap.push { cls:=.type "dict",data:=.dict #[] } }) PySem.F.kt_called_dict (PySem.F.kt_typeCall_dict_1 _) PySem.F.entry_dict_init (kt_code_dict_new _ ⟨rfl,rfl⟩) ?_
 rintro obj s₁ ⟨rfl,rfl⟩
 have hnew:(s.heap.push { cls:=.type "dict",data:=.dict #[] }).DictOf (PySem.strKind c.prog c.w) s.heap.objs.size []:=Heap.DictOf.new s.heap;obtain ⟨epd,hdA⟩:=hnew.dictAt;refine ⟨hnew.typeIs,PySem.F.args_dict_init_2 _ _,?_⟩;have R1:Rel c (ρ.ext st.n s.heap.objs.size 0) (st.push (.dict [])) { s with heap:=s.heap.push { cls:=.type "dict",data:=.dict #[] } }:=R.push C s.toks trivial ⟨[],epd,by rw [Rho.ext_a]; exact hdA,trivial⟩
 have g1:=ρ.ext_ag st.n s.heap.objs.size 0;have hl1:(st.push (.dict [])).get l=some (.list xs):=by rw [St.get_push,if_neg (ne_of_lt hlt)]; exact hl
 have al:(ρ.ext st.n s.heap.objs.size 0).a l=ρ.a l:=(g1 l hlt).1
 (refine xAA (R1.at_ _ _ hl1) ?_;intro _ o3 _;obtain ⟨vs1,ep1,e1',_⟩:=o3)
 rw [al] at e1';unfold Builtin.«dict.__init__»;refine W0j ?_;unfold Builtin.Dict.selfAndRest;refine W0j (wpAny_notOrdered_dict hnew.typeIs ?_);show wpAny _ _ (pure (s.heap.objs.size,[Value.ref (ρ.a l)])) _ _ _;refine W0k ?_;show wpAny _ _ (Builtin.Dict.updateFrom "dict.__init__" s.heap.objs.size (.ref (ρ.a l)) [] .none) _ _ _;unfold Builtin.Dict.updateFrom;have hT:({ s with heap:=s.heap.push { cls:=.type "dict",data:=.dict #[] } }:Shared).TypeIs (.ref (ρ.a l)) "list":=⟨_,e1',rfl⟩
 refine W0j (wpAny_typeOf hT ?_);rw [if_pos (by decide)];refine W0j (Z94 e1' rm.hh fun h' tk hk=>?_);rw [if_pos (show (none:Option Value).isNone=true from rfl)];refine W0j (wpAny_rule ?_);have R2:Rel c (ρ.ext st.n s.heap.objs.size 0) (st.push (.dict [])) { s with heap:=h',toks:=tk }:=R1.more (h':=h') tk hk;refine W0j ?_;have hit:ZT T c.ro (st.push (.dict [])) (.ref l) (fun i st=>some (.v (.ref i),st))=some (.v (.ref (st.n+1)),(st.push (.dict [])).push (.itList l 0)):=by
  unfold ZT;dsimp only;rw [show rd c.ro (st.push (.dict [])) l=some (.list xs) from by unfold rd;rw [hl1]];rfl
 refine Z24 W.X C R2 hit ⟨W08 hlt,by rw [al]⟩ fun ρ' i st1 s1 hk1 hi g2 n2 R3=>?_
 cases hk1
 refine W0k ⟨plainId_quiet Z12 _,?_⟩;have ad:ρ'.a st.n=s.heap.objs.size:=by rw [(g2 st.n (lt_succ_self _)).1,Rho.ext_a]
 rw [← ad];have hl3:((st.push (.dict [])).push (.itList l 0)).get l=some (.list xs):=by rw [St.get_push,St.n_push,if_neg (show ¬ l=st.n+1 by omega)]; exact hl1
 have hi3:((st.push (.dict [])).push (.itList l 0)).get (st.n+1)=some (.itList l 0):=by rw [St.get_push,St.n_push,if_pos rfl]
 have hd3:((st.push (.dict [])).push (.itList l 0)).get st.n=some (.dict []):=by rw [St.get_push,St.n_push,if_neg (show ¬ st.n=st.n+1 by omega),St.get_push,if_pos rfl]
 have hp3:∀ (r:List MV) (q:List (Str×MV)),Qr st r q→Qr ((st.push (.dict [])).push (.itList l 0)) r q:=by
  intro r
  induction r with
  | nil=>intro q hq;cases q with
   | nil=>trivial
   | cons=>exact hq.elim
  | cons a r ih=>intro q hq;cases q with
   | nil=>exact hq.elim
   | cons b q =>
    obtain ⟨⟨t',rfl,ht'⟩,hq⟩:=hq;refine ⟨⟨t',rfl,?_⟩,ih q hq⟩;have:=(R.at_ _ _ ht').1;rw [St.get_push,St.n_push,if_neg (show ¬ t'=st.n+1 by omega),St.get_push,if_neg (by omega)];exact ht'
 refine Z4X (xs:=xs) C (d:=st.n) (it:=st.n+1) (l:=l) (by omega) (by omega) (by omega) xs ps 0 [] _ _ 0 _ _ _ rm.hh rfl (hp3 xs ps hp) hl3 hi3 hd3 (by simpa using hz) R3 fun s' st' k1 k2 R'=>?_;refine ⟨rfl,ρ',fun j hj=>⟨(g2 j (W08 hj)).1.trans (g1 j hj).1,(g2 j (W08 hj)).2.trans (g1 j hj).2⟩,W07 st.n 2,?_,by show st.n<st.n+2;omega,by rw [ad]⟩
 refine R'.eqv ⟨k1,fun j=>?_⟩;rw [k2 j,Qh];show _=if j=st.n+1 then none else (st.push (.dict (putAll ps []))).get j
 by_cases q:j=st.n+1
 ·rw [if_pos q,if_pos q]
 ·rw [if_neg q,if_neg q,St.get_push,St.get_push,St.n_push,if_neg q,St.get_push];by_cases q':j=st.n
  ·rw [if_pos q',if_pos q']
  ·rw [if_neg q',if_neg q',if_neg q']
end
end
section
variable {T:Tab}{nt:List Stmt}{orc:Orc}{st st1 st2:St}{ξ:Z3}
theorem ZcF (hl:Zje ξ ts vs=some l)(h1:Run T (.ex (.Tuple vs k' p') ξ) st (.v (.ref j)) st1)(hj:Has st1 j (.tup xs))(hn:xs.length=l.length)(h2:Yr ξ l.reverse xs.reverse st1 (fun st=>some (.nx,st))=some (.nx,st3)) :
  Run T (.st (.Assign [.Tuple ts k p] (.Tuple vs k' p') pos) ξ) st .nx st3:=by
 exact fun c W=>ZaW W hl (h1 c W) (by unfold YE;dsimp only;rw [hj.rd]) hn h2
noncomputable def ZC {α β:Type}(R:α→β→Prop):List α→List β→Prop
 | [],[]=>True
 | a::as,b::bs=>R a b∧ZC R as bs
 | _,_=>False
theorem ZC.imp {α β:Type}{R R':α→β→Prop}(h:∀ a b,R a b→R' a b):∀ {as:List α}{bs:List β},ZC R as bs→ZC R' as bs
 | [],[],_=>trivial
 | _::_,_::_,zq2=>by obtain ⟨h1,h2⟩:=zq2;exact ⟨h _ _ h1,h2.imp h⟩
 | [],_::_,h=>h.elim
 | _::_,[],h=>h.elim
theorem Z1V {α:Type}{Q:St→α→MV→Prop}(ht:t = .Name x pt)(hfn:Zi ξ.sc.kind=true)(hk:kindOf x ξ.sc.names=some .local)(hfr:ξ.loc=fr)
  (hQ:∀ st st' a u dn k m,Q st a u→Has st acc (.list dn)→Has st it (.itList c k)→Has st fr (.frame m)→Le [acc,it,fr] st st'→Q st' a u)
  (n1:it≠acc) (n2:it≠fr) (n3:acc≠fr) (g1:st0.n≤it) (g2:st0.n≤acc) (g3:st0.n≤fr) (hc:Has st0 c (.list xs)) {S:Nat→Option α→Prop}
  (hstep:∀ (w:Nat) (r:Option α),S w r→∀ st,Le [] st0 st→Has st fr (.frame [(x,.ref w)])→match r with
   | none=>∃ st1,Run T (.ifs ifs ξ) st (.b false) st1∧Le [] st st1
   | some a=>∃ st1 st2 u,Run T (.ifs ifs ξ) st (.b true) st1∧Run T (.ex elt ξ) st1 (.v u) st2∧Le [] st st2∧Q st2 a u) :
  ∀ (ws:List Nat) (rs:List (Option α)) (k:Nat) (m:List (Str×MV)) (dn:List MV) (st:St),ZC S ws rs→Le [] st0 st→xs.drop k=ws.map .ref→Has st fr (.frame m)→(m=[]∨∃ v,m=[(x,v)])→Has st it (.itList c k)→Has st acc (.list dn)→dn.length+ws.length<100000 →
   ∃ (st':St) (us:List MV) (m':List (Str×MV)),Run T (.comp elt t ifs it acc ξ) st .u st'∧Le [acc,it,fr] st st'∧Has st' acc (.list (dn++us))∧ZC (Q st') (rs.filterMap id) us∧Has st' fr (.frame m')
 | [],rs,k,m,dn,st,hS,le,hx,hF,hm,hi,ha,hz=>by
  cases rs using List.casesOn with
  | cons=>exact hS.elim
  | nil =>
  exact ⟨st.del it,[],m,Zbp fun ro=>Z1l hi (hc.le0 le) (drop_eq_nil_iff.mp hx),Le.del (by simp),by rw [append_nil]; exact ha.del (Ne.symm n1),trivial,hF.del (Ne.symm n2)⟩
 | w::ws,rs,k,m,dn,st,hS,le,hx,hF,hm,hi,ha,hz=>by
  cases rs using List.casesOn with
  | nil=>exact hS.elim
  | cons r rs =>
  obtain ⟨hS1,hS2⟩:=hS;subst ht hfr;have hkx:xs[k]?=some (.ref w):=by
   have:=congrArg head? hx
   simpa using this
  have hx':xs.drop (k+1)=ws.map .ref:=by rw [← drop_drop,hx]; rfl
  let sa:=st.put it (.itList c (k+1))
  let sb:=sa.put ξ.loc (.frame [(x,.ref w)])
  have hFa:Has sa ξ.loc (.frame m):=hF.put (Ne.symm n2);have hFb:Has sb ξ.loc (.frame [(x,.ref w)]):=Has.put_same hFa.1;have hib:Has sb it (.itList c (k+1)):=(Has.put_same hi.1).put n2;have hab:Has sb acc (.list dn):=(ha.put (Ne.symm n1)).put n3;have leb:Le [acc,it,ξ.loc] st sb:=(Le.put (by simp)).trans (Le.put (by simp));have le0b:Le [] st0 sb:=le.then leb (by simp;exact ⟨g2,g1,g3⟩)
  have nx:∀ ro,Zy T ro st it=some (some (.ref w),sa):=fun ro=>Z0W hi (hc.le0 le) hkx;have as:Run T (.asg (.Name x pt) (.ref w) ξ) sa .u sb:=ZH hFa hfn hk (by
   rcases hm with rfl | ⟨v,rfl⟩
   ·rfl
   ·unfold Zh;rw [decide_eq_true rfl])
  have st':=hstep w r hS1 sb le0b hFb;simp only [length_cons] at hz
  cases r using Option.casesOn with
  | none =>
   (refine xEA st' ?_;(try clear st');intro s1 r1 le1)
   obtain ⟨s',us,m',rr,a1,a2,a3,a4⟩:=Z1V (elt:=elt) (ifs:=ifs) rfl hfn hk rfl hQ n1 n2 n3 g1 g2 g3 hc hstep ws rs (k+1) _ dn s1 hS2 (le0b.trans le1) hx' (hFb.le0 le1) (.inr ⟨_,rfl⟩) (hib.le0 le1) (hab.le0 le1) (by omega);exact ⟨s',us,m',ZbX nx rfl as r1 rr,(leb.trans le1.of0).trans a1,a2,a3,a4⟩
  | some a =>
   (refine xEEEAAA st' ?_;(try clear st');intro s1 s2 u r1 r2 le2 q2)
   have ha2:=hab.le0 le2
   let s3:=s2.put acc (.list (dn++[u]))
   have le3:Le [acc,it,ξ.loc] s2 s3:=Le.put (by simp);have le03:Le [] st0 s3:=(le0b.trans le2).then le3 (by simp;exact ⟨g2,g1,g3⟩);obtain ⟨s',us,m',rr,a1,a2,a3,a4⟩:=Z1V (elt:=elt) (ifs:=ifs) rfl hfn hk rfl hQ n1 n2 n3 g1 g2 g3 hc hstep ws rs (k+1) _ (dn++[u]) s3 hS2 le03 hx' ((hFb.le0 le2).put (Ne.symm n3)) (.inr ⟨_,rfl⟩) ((hib.le0 le2).put n1) (Has.put_same ha2.1) (by first | omega | (simp;omega))
   rw [append_assoc] at a2;refine ⟨s',u::us,m',Zbc nx rfl as r1 r2 ha2.2 (by unfold lim;omega) rr,((leb.trans le2.of0).trans le3).trans a1,a2,⟨?_,a3⟩,a4⟩;exact hQ s2 s' a u dn (k+1) [(x,.ref w)] q2 ha2 (hib.le0 le2) (hFb.le0 le2) (le3.trans a1)
def XC (st:St)(x:Str)(w:Nat)(o:Option Str):Prop:=∃ es,Has st w (.dict es)∧Z2 x es=o.map .str
theorem XC.le (h:XC st x w o)(k:Le [] st st1):XC st1 x w o:=xEA h fun es h1 h2=>⟨es,h1.le0 k,h2⟩
def lfR:ZF:=Z8 (Ze 70) [] 579 "_law_first"
def Jy (L C lev:Nat):Z3:=⟨lfR.sc,L,[("name",C)],lfR.code,ZU lfR.qual,lev⟩
def Zmb:Stmt:=Zo 0 lfR.body
noncomputable def Jj:Stmt→Expr
 | .Assign _ v _=>v
 | _=>.Name "" ⟨0,0,0,0⟩
noncomputable def ZkJ:Expr→Expr
 | .ListComp e _ _ _=>e
 | e=>e
noncomputable def XD:Expr→Comprehension
 | .ListComp _ (g::_) _ _=>g
 | e=>⟨e,e,[],0⟩
noncomputable def ZkO:Expr→Scope
 | .ListComp _ _ sc _=>sc
 | _=>⟨.module,[],false,false,[]⟩
def lfC:Expr:=Jj Zmb
def ZlG (F C lev:Nat):Z3:=⟨{ ZkO lfC with names:=YG (Jy 0 1 0) (ZkO lfC).names },F,[("name",C)],lfR.code,ZU lfR.qual,lev⟩
theorem Z9F:∃ st1,ZO lfR [u,v,w] lev st=some (.u,st1)∧st1.n=st.n+2∧Le [] st st1∧Has st1 st.n (.frame [("words",u),("other",w)])∧Has st1 (st.n+1) (.cell (some v)):=by
 let s0:=(st.push (.frame [])).push (.cell none)
 have e:ZO lfR [u,v,w] lev st=Zx (Jy st.n (st.n+1) lev) "words" u s0 fun st'=>Zx (Jy st.n (st.n+1) lev) "name" v st' fun st'=>Zx (Jy st.n (st.n+1) lev) "other" w st' fun st=>some (.u,st):=rfl;have hL:Has s0 st.n (.frame []):=Has.new.push;have hC:Has s0 (st.n+1) (.cell none):=Has.new
 let s1:=s0.put st.n (.frame [("words",u)])
 let s2:=s1.put (st.n+1) (.cell (some v))
 have hL1:Has s1 st.n (.frame [("words",u)]):=Has.put_same hL.1;have hC1:Has s1 (st.n+1) (.cell none):=hC.put (by omega);have hL2:Has s2 st.n (.frame [("words",u)]):=hL1.put (by omega);have hC2:Has s2 (st.n+1) (.cell (some v)):=Has.put_same hC1.1;refine ⟨s2.put st.n (.frame [("words",u),("other",w)]),?_,rfl,?_,Has.put_same hL2.1,hC2.put (by omega)⟩
 ·rw [e,J5 (ξ:=Jy st.n (st.n+1) lev) hL ∅ ∅ (by kernel_rfl:Zh "words" u []=[(ofString "words",u)])];show Zx (Jy st.n (st.n+1) lev) "name" v s1 _=_;rw [Z3v (ξ:=Jy st.n (st.n+1) lev) ∅ ∅ ∅ hC1];exact J5 (ξ:=Jy st.n (st.n+1) lev) hL2 ∅ ∅ ∅
 ·have q:Le [st.n,st.n+1] s0 (s2.put st.n (.frame [("words",u),("other",w)])):=((Le.put (by simp)).trans (Le.put (by simp))).trans (Le.put (by simp));have q0:Le [] st s0:=Le.push.trans Le.push;exact q0.then q (by simp)
theorem Z6d (h1:Has st i (.list xs))(h2:Has st j (.list ys)):rcv T ro st (.ref i) (.ref j)=(match beq xs.length ys.length with | true=>JG (eqv T st 8) xs ys | false=>some false):=by
 unfold rcv;dsimp only;rw [h1.rd,h2.rd];rfl
theorem Z0M (h1:Has st i (.list xs))(h2:Has st j (.list [])):ZY T ro st .NotEq (.ref i) (.ref j)=some (!xs.isEmpty):=by
 show Qv (rcv T ro st (.ref i) (.ref j))=_
 rw [Z6d h1 h2]
 cases xs<;>rfl
theorem Z1G:∀ (l:List (Option Str)),Zs l=(l.filterMap id).head?
 | []=>rfl
 | some _::_=>rfl
 | none::r=>Z1G r
theorem Z6z:∀ {l:List Str}{us:List MV},ZC (fun a u=>u=MV.str a) l us→us=l.map .str
 | [],[],_=>rfl
 | _::_,_::_,zq2=>by obtain ⟨h,h'⟩:=zq2;rw [h,Z6z h']; rfl
 | [],_::_,h=>h.elim
 | _::_,[],h=>h.elim
theorem Z91 (hc:Has st c (.list (ws.map .ref)))(hw:ZC (XC st x) ws l)(hz:ws.length<1000) :
  ∃ st',Run (Z1 nt orc) (.call (.old 580) [.ref c,.str x,.str y] (lev+1)) st (.v (.str ((Zs l).getD y))) st'∧Le [] st st':=by
 obtain ⟨st1,e1,n1,le1,hL,hC⟩:=Z9F (st:=st) (lev:=lev) (u:=.ref c) (v:=.str x) (w:=.str y)
 generalize hn:st.n=n at *
 let st2:=st1.push (.itList c 0)
 let st3:=(st2.push (.list [])).push (.frame [])
 have n2:st2.n=st1.n+1:=rfl;have hL3:Has st3 n (.frame [("words",.ref c),("other",.str y)]):=hL.push.push.push;have hi3:Has st3 st1.n (.itList c 0):=Has.new.push.push;have ha3:Has st3 st2.n (.list []):=Has.new.push;have hf3:Has st3 (st2.n+1) (.frame []):=Has.new;have le13:Le [] st1 st3:=(Le.push.trans Le.push).trans Le.push;have hw1:ZC (XC st1 x) ws l:=hw.imp fun a b h=>h.le le1
 obtain ⟨st4,us,m4,rc,le4,ha4,hq4,hf4⟩:=Z1V (T:=Z1 nt orc) (ξ:=ZlG (st2.n+1) (n+1) lev) (Q:=fun u0 a u=>u=MV.str a) (st0:=st1) (elt:=ZkJ lfC) (t:=(XD lfC).target) (ifs:=(XD lfC).ifs) (it:=st1.n) (acc:=st2.n) (fr:=st2.n+1) (c:=c) (x:="row") (xs:=ws.map .ref) rfl ∅ ∅ rfl
  (fun u0 u0 u0 u0 u0 u0 u0 h u0 u0 u0 u0=>h) (by omega) (by omega) (by omega) (W04 _) (by omega) (by omega) (hc.le0 le1) (S:=XC st1 x) (fun w r hS st le hF=>by
   obtain ⟨es,h1,h2⟩:=hS;have hC':=hC.le0 le;have h1':=h1.le0 le;have row:∀ p,Run (Z1 nt orc) (.ex (.Name "row" p) (ZlG (st2.n+1) (n+1) lev)) st (.v (.ref w)) st:=fun p=>Za hF ∅ ∅ ∅ ∅;have nam:∀ p,Run (Z1 nt orc) (.ex (.Name "name" p) (ZlG (st2.n+1) (n+1) lev)) st (.v (.str x)) st:=fun p=>Ql (j:=n+1) ∅ ∅ ∅ hC' ∅;have ci:∀ ro,ZY (Z1 nt orc) ro st .In (.str x) (.ref w)=some (Z2 x es).isSome:=fun ro=>by
    show (match rd ro st w with | some (.tup xs)=>YC x xs | some (.dict es)=>some (Z2 x es).isSome | some (.fdict es _)=>some (Z2 x es).isSome | _=>none)=_
    rw [h1'.rd]
   cases r using Option.casesOn with
   | none =>
    rw [h2] at ci;exact ⟨st,Z3H (ZJ (a:=.str x) (b:=.ref w) rfl (nam _) (row _) ci),Le.refl⟩
   | some v =>
    rw [h2] at ci;refine ⟨st,st,.str v,Z3H (ZJ (a:=.str x) (b:=.ref w) rfl (nam _) (row _) ci),Yz (a:=.ref w) (b:=.str x) rfl (row _) (nam _) (fun ro=>?_),Le.refl,rfl⟩;exact (Z4a (h1'.rd _)).trans h2) ws l 0 [] [] st3 hw1 le13 rfl hf3 (.inl rfl) hi3 ha3 (by first | omega | (simp;omega))
 have hus:=Z6z hq4;have le14:Le [] st1 st4:=le13.then le4 (by first | omega | (simp;omega));have hL4:Has st4 n (.frame [("words",.ref c),("other",.str y)]):=hL3.le le4 (by first | omega | (simp;omega))
 let st5:=st4.put n (.frame [("words",.ref c),("other",.str y),("some",.ref st2.n)])
 have hL5:Has st5 n (.frame [("words",.ref c),("other",.str y),("some",.ref st2.n)]):=Has.put_same hL4.1;have hf5:Has st5 (st2.n+1) (.frame m4):=hf4.put (by omega);have ha5:Has st5 st2.n (.list us):=ha4.put (by omega)
 let st6:=st5.del (st2.n+1)
 have hL6:Has st6 n (.frame [("words",.ref c),("other",.str y),("some",.ref st2.n)]):=hL5.del (by omega);have ha6:Has st6 st2.n (.list us):=ha5.del (by omega)
 let st7:=st6.push (.list [])
 have s0:Run (Z1 nt orc) (.st Zmb (Jy n (n+1) lev)) st1 .nx st6:=by
  refine Z2a (a:=.ref c) (st1:=st1) (st2:=st2) (it:=st1.n) (cs:=[("name",n+1)]) (m:=m4) (st3:=st4) (st4:=st5) ∅ ∅ ∅ ∅ ∅ (Za hL ∅ ∅ ∅ ∅) (fun ro=>QN (hc.le0 le1)) ?_ rc ?_ hf5.2
  ·rw [(Has.new:Has st2 st1.n (.itList c 0)).2]; rfl
  ·exact J5 (ξ:=Jy n (n+1) lev) hL4 ∅ ∅ ∅
 have le7:Le [] st st7:=by
  have q1:Le [n,st2.n+1] st4 st6:=(Le.put (by simp)).trans (Le.del (by simp));have q2:Le [] st st4:=le1.trans le14;exact (q2.then q1 (by first | omega | (simp;omega))).trans Le.push
 have tst:Run (Z1 nt orc) (.tst (match Zo 1 lfR.body with | .Return (some (.IfExp t _ _ _)) _=>t | _=>.Name "" ⟨0,0,0,0⟩) (Jy n (n+1) lev)) st6 (.b (!us.isEmpty)) st7 :=
  ZJ (a:=.ref st2.n) (b:=.ref st6.n) rfl (Za hL6 ∅ ∅ ∅ ∅) (YW rfl YX (by show 0≤1000000;decide)) (fun ro=>Z0M ha6.push Has.new)
 have ret:Run (Z1 nt orc) (.st (Zo 1 lfR.body) (Jy n (n+1) lev)) st6 (.ret (.str ((Zs l).getD y))) st7:=by
  refine YA (Z2f (d:=!us.isEmpty) tst ?_);rw [Z1G]
  cases hf:l.filterMap id using List.casesOn with
  | nil =>
   rw [hf] at hus;subst hus;exact Za hL6.push ∅ ∅ ∅ ∅
  | cons v r =>
   rw [hf] at hus;subst hus;exact Yz (a:=.ref st2.n) (b:=.int 0) rfl (Za hL6.push ∅ ∅ ∅ ∅) (Z4 rfl) (Yt ha6.push (JQ (i:=0) rfl (by decide)))
 subst hn;exact ⟨st7,Zeo (r:=lfR) (o:=.ret _) rfl rfl e1 (ZV s0 (Y5 ret)) rfl,le7⟩
end
section
variable {T:Tab}{nt:List Stmt}{orc:Orc}{st st1 st2:St}{ξ:Z3}
structure YP (st:St)(v:Nat)(vs:List (Str×MV)):Prop where
 kv:Has st v (.dict vs)
 kd:Has st (v+1) (.dict [("values",.ref v)])
 ki:Has st (v+2) (.inst 403 (v+1))
theorem YP.le (h:YP st v vs)(k:Le [] st st1):YP st1 v vs:=⟨h.kv.le0 k,h.kd.le0 k,h.ki.le0 k⟩
structure Qs (st:St)(x:Nat)(c:Nat×Nat×Nat):Prop where
 ka:Has st x (.dict (ZX (YL c.1) (ZW c.2.1) (opT c.2.2)))
 kc:Has st (x+1) (.list [])
 kd:Has st (x+2) (elD "stop" x (x+1))
 ke:Has st (x+3) (.inst 501 (x+2))
theorem Qs.le (h:Qs st x c)(k:Le [] st st1):Qs st1 x c:=⟨h.ka.le0 k,h.kc.le0 k,h.kd.le0 k,h.ke.le0 k⟩
theorem Z2v (f:Nat→Nat)(a b c:Str):ZZ f (lkV a b c)=lkV a b c:=rfl
theorem nd6 (h:x+8≤v):[x+3,x+2,x,v+2,v+1,v].Nodup:=by
 first | omega | (simp only [nodup_cons,mem_cons,not_mem_nil,or_false,not_or,not_false_eq_true,nodup_nil,and_true]; omega)
theorem Z83 (hs:Qs st x c)(hl:YP st v vs)(hvs:∀ f,ZZ f vs=vs):ZG st (idx [x+3,x+2,x,x+1,v+2,v+1,v]) [x+3,x+2,x,x+1,v+2,v+1,v] (YM (ZX (YL c.1) (ZW c.2.1) (opT c.2.2)) vs):=by
 refine ⟨hs.ke,hs.kd,?_,hs.kc.1,hl.ki,hl.kd,?_,trivial⟩
 ·rw [show ZA _ (MObj.dict (ZX (YL c.1) (ZW c.2.1) (opT c.2.2)))=MObj.dict (ZX (YL c.1) (ZW c.2.1) (opT c.2.2)) from congrArg MObj.dict (Z3D _ _ _ _)];exact hs.ka
 ·rw [show ZA _ (MObj.dict vs)=MObj.dict vs from congrArg MObj.dict (hvs _)];exact hl.kv
theorem Z9T (hc:Q8 c)(hs:Qs st x c)(hl:YP st v (lkV "black" "black" "1"))(hx:x+8≤v)(hlev:8≤lev) :
  ∃ st',Run (Z1 nt orc) (.call (.old 428) [.ref (x+3),.ref (v+2)] lev) st (.v (.ref (st.n+2))) st'∧Le [] st st'∧YP st' st.n (lkV "blue" ((ZW c.2.1).getD "black") ((opT c.2.2).getD "1")):=by
 have hr:=Zfm nt (YL c.1) c.2.1 c.2.2 hc.2.1 hc.2.2;have hfit:=Z83 hs hl (fun f=>Z2v f _ _ _);have hnd:(Zj [x+3,x+2,x,x+1,v+2,v+1,v] (YM (ZX (YL c.1) (ZW c.2.1) (opT c.2.2)) (lkV "black" "black" "1"))).Nodup:=nd6 hx
 (refine xEA (Z2b noG (st:=st) (fl:=[x+3,x+2,x,x+1,v+2,v+1,v]) hr rfl hfit hnd) ?_;intro st' m ran)
 have hin:Y1 (below 7) (YM (ZX (YL c.1) (ZW c.2.1) (opT c.2.2)) (lkV "black" "black" "1"))=true:=by
  have:=hr.chk
  rw [and_eq_true] at this;exact Z1N this.1
 refine ⟨st',Yo (Zcy m hlev),ran.keeps hfit hnd hin fun i o hi=>.inl hi,⟨?_,ran.new 1 _ rfl,ran.new 2 _ rfl⟩⟩;exact ran.new 0 _ rfl
def J6 (st:St)(c:Nat×Nat×Nat)(u:MV):Prop:=∃ r p s,u = .ref r∧Has st r (.tup [p,.ref s,.int (Ym c.2.2)])∧Has st s (J0 c.2.1)∧((∃ q,p = .ref q∧Has st q (YN c.1))∨(p = .old 104∧Zin c.1=(0,1)))
theorem J6.le (h:J6 st c u)(k:Le [] st st1):J6 st1 c u:=by
 obtain ⟨r,p,s,h1,h2,h3,h4⟩:=h;refine ⟨r,p,s,h1,h2.le0 k,h3.le0 k,h4.imp (fun ⟨q,a,b⟩=>⟨q,a,b.le0 k⟩) id⟩
theorem Z3L (h:blt i n0=false):gOf n0 n new f i=n+new.idxOf i:=by unfold gOf;rw [h]
theorem ZbP (hn:Yg nt)(hc:Q8 c)(hs:Qs st x c)(hl:YP st v (lkV "blue" ((ZW c.2.1).getD "black") ((opT c.2.2).getD "1")))(hx:x+8≤v)(hlev:8≤lev) :
  ∃ st' u,Run (Z1 nt orc) (.call (.old 454) [.ref (x+3),.ref (v+2)] lev) st (.v u) st'∧Le [] st st'∧J6 st' c u:=by
 have hfit:=Z83 hs hl (fun f=>Z2v f _ _ _);have hnd:(Zj [x+3,x+2,x,x+1,v+2,v+1,v] (YB c.1 c.2.1 c.2.2)).Nodup:=nd6 hx;have fin:∀ {new:List Nat} {news:List (Option MObj)} {r n':Nat} (hr:ZM (T2 nt) 300 (.call (.old 454) [.ref 0,.ref 4] 8) (YB c.1 c.2.1 c.2.2) 7 new (.v (.ref r)) n' (YB c.1 c.2.1 c.2.2) news),
   ∃ st',Run (Z1 nt orc) (.call (.old 454) [.ref (x+3),.ref (v+2)] lev) st (.v (.ref (gOf 7 st.n new (idx [x+3,x+2,x,x+1,v+2,v+1,v]) r))) st'∧Le [] st st'∧∀ k o,news[k]?=some (some o)→Has st' (st.n+k) (ZA (gOf 7 st.n new (idx [x+3,x+2,x,x+1,v+2,v+1,v])) o):=by
  intro new news r n' hr
  (refine xEA (Z2b (T2G hn) (st:=st) (fl:=[x+3,x+2,x,x+1,v+2,v+1,v]) hr rfl hfit hnd) ?_;intro st' m ran)
  have hin:Y1 (below 7) (YB c.1 c.2.1 c.2.2)=true:=by
   have:=hr.chk
   rw [and_eq_true] at this;exact Z1N this.1
  exact ⟨st',Yo (Zcy m hlev),ran.keeps hfit hnd hin fun i o hi=>.inl hi,ran.new⟩
 have big:∀ {n0:Nat} {new:List Nat} {n':Nat} {os olds news:List (Option MObj)} {o:Out},(Yi n0 n' os olds news new&&Qf (pOf n0 new) o)=true→(∀ i∈new,blt i n0=false)∧new.Nodup:=by
  intro n0 new n' os olds news o h;rw [and_eq_true] at h;have h:=h.1
  (first | delta Yi at h | unfold Yi at h)
  simp only [and_eq_true,decide_eq_true_eq,all_eq_true] at h;refine ⟨fun i hi=>?_,h.2⟩;have z:=W06 (h.1.1.1.1.2 i hi).1
  cases q:blt i n0 with
  | false=>rfl
  | true=>have:=W06 q;omega
 rcases ZcR nt c.1 c.2.1 c.2.2 hc.1 hc.2.1 hc.2.2 with ⟨a,b,r,n',hr⟩ | ⟨hp,b,r,n',hr⟩
 ·(refine xA (big hr.chk) ?_;intro hb hnd')
  (refine xEAA (fin hr) ?_;intro st' m le nw)
  have i0:idxOf a [a,b,r]=0:=hnd'.idxOf_getElem 0 (by simp);have i1:idxOf b [a,b,r]=1:=hnd'.idxOf_getElem 1 (by simp);have i2:idxOf r [a,b,r]=2:=hnd'.idxOf_getElem 2 (by simp);have ga:=Z3L (n:=st.n) (new:=[a,b,r]) (f:=idx [x+3,x+2,x,x+1,v+2,v+1,v]) (hb a (by simp));have gb:=Z3L (n:=st.n) (new:=[a,b,r]) (f:=idx [x+3,x+2,x,x+1,v+2,v+1,v]) (hb b (by simp))
  have gr:=Z3L (n:=st.n) (new:=[a,b,r]) (f:=idx [x+3,x+2,x,x+1,v+2,v+1,v]) (hb r (by simp));rw [i0] at ga;rw [i1] at gb;rw [i2] at gr;refine ⟨st',_,m,le,_,.ref (st.n+0),st.n+1,rfl,?_,nw 1 _ rfl,.inl ⟨_,rfl,nw 0 _ rfl⟩⟩;rw [gr];have:=nw 2 _ rfl;rw [show ZA (gOf 7 st.n [a,b,r] (idx [x+3,x+2,x,x+1,v+2,v+1,v])) (MObj.tup [.ref a,.ref b,.int (Ym c.2.2)])=MObj.tup [.ref (st.n+0),.ref (st.n+1),.int (Ym c.2.2)] by
   show MObj.tup [.ref _,.ref _,.int _]=_
   rw [ga,gb]] at this
  exact this
 ·(refine xA (big hr.chk) ?_;intro hb hnd')
  (refine xEAA (fin hr) ?_;intro st' m le nw)
  have i0:idxOf b [b,r]=0:=hnd'.idxOf_getElem 0 (by simp);have i1:idxOf r [b,r]=1:=hnd'.idxOf_getElem 1 (by simp);have gb:=Z3L (n:=st.n) (new:=[b,r]) (f:=idx [x+3,x+2,x,x+1,v+2,v+1,v]) (hb b (by simp));have gr:=Z3L (n:=st.n) (new:=[b,r]) (f:=idx [x+3,x+2,x,x+1,v+2,v+1,v]) (hb r (by simp));rw [i0] at gb;rw [i1] at gr;refine ⟨st',_,m,le,_,.old 104,st.n+0,rfl,?_,nw 0 _ rfl,.inr ⟨rfl,hp⟩⟩
  rw [gr];have:=nw 1 _ rfl;rw [show ZA (gOf 7 st.n [b,r] (idx [x+3,x+2,x,x+1,v+2,v+1,v])) (MObj.tup [.old 104,.ref b,.int (Ym c.2.2)])=MObj.tup [.old 104,.ref (st.n+0),.int (Ym c.2.2)] by
   show MObj.tup [.old _,.ref _,.int _]=_
   rw [gb]] at this
  exact this
theorem Z5c (nt:List Stmt):ZM (Z1 nt Y7) 300 (.call (.old 414) [] 4) [] 0 [2,5,6] (.v (.ref 6)) 8 [] [some (.dict (lkV "black" "black" "1")),some (.dict [("values",.ref 2)]),some (.inst 403 5)]:=⟨∅,∅⟩
theorem Z1Q (hlev:4≤lev):∃ st',Run (Z1 nt orc) (.call (.old 414) [] lev) st (.v (.ref (st.n+2))) st'∧Le [] st st'∧YP st' st.n (lkV "black" "black" "1"):=by
 (refine xEA (Z2b noG (st:=st) (fl:=[]) (Z5c nt) rfl trivial (by simp [Zj])) ?_;intro st' m ran)
 exact ⟨st',Yo (Zcy m hlev),ran.le,⟨ran.new 0 _ rfl,ran.new 1 _ rfl,ran.new 2 _ rfl⟩⟩
end
section
variable {T:Tab}{nt:List Stmt}{orc:Orc}{st st1 st2:St}{ξ:Z3}
noncomputable def ZkN (st:St)(v w:Nat):Option (Nat×Nat×Nat)→Prop
 | none=>∃ a c es,El st w "desc" a c es
 | some c=>Q8 c∧∃ x,w=x+3∧Qs st x c∧x+8≤v
theorem ZkN.le (h:ZkN st v w r)(k:Le [] st st1):ZkN st1 v w r:=by
 cases r with
 | none=>obtain ⟨a,c,es,h⟩:=h;exact ⟨a,c,es,h.le k⟩
 | some c=>obtain ⟨h0,x,h1,h2,h3⟩:=h;exact ⟨h0,x,h1,h2.le k,h3⟩
structure QQ (st:St)(v e:Nat)(cs:List (Nat×Nat×Nat)):Prop where
 ok:∃ nm a ch es ws,El st e nm a ch es∧Has st ch (.list (ws.map .ref))∧ws.length≤100∧ZC (ZkN st v) ws (none::cs.map some)
theorem QQ.le (h:QQ st v e cs)(k:Le [] st st1):QQ st1 v e cs:=by
 obtain ⟨nm,a,ch,es,ws,h1,h2,h3,h4⟩:=h.ok;exact ⟨nm,a,ch,es,ws,h1.le k,h2.le0 k,h3,h4.imp fun u0 u0 z=>z.le k⟩
theorem El.name (h:El st e nm a c es)(hb:JZ x=true)(h1:Run (Z1 nt orc) (.ex x ξ) st (.v (.ref e)) st):Run (Z1 nt orc) (.ex (.Attribute x "name" p) ξ) st (.v (.str nm)) st:=by
 obtain ⟨d,k1,k2,k3⟩:=h;exact Z43 (C:=501) (r:=Zk9) (es:=[("name",.str nm),("attributes",.ref a),("children",.ref c),("text",.str "")]) hb h1 k1 rfl ∅ k2 ∅
theorem El.children (h:El st e nm a c es)(hb:JZ x=true)(h1:Run (Z1 nt orc) (.ex x ξ) st (.v (.ref e)) st):Run (Z1 nt orc) (.ex (.Attribute x "children" p) ξ) st (.v (.ref c)) st:=by
 obtain ⟨d,k1,k2,k3⟩:=h;exact Z43 (C:=501) (r:=Zk9) (es:=[("name",.str nm),("attributes",.ref a),("children",.ref c),("text",.str "")]) hb h1 k1 rfl ∅ k2 ∅
theorem Qs.el (h:Qs st x c):El st (x+3) "stop" x (x+1) (ZX (YL c.1) (ZW c.2.1) (opT c.2.2)):=⟨x+2,h.ke,h.kd,h.ka⟩
def soR:ZF:=Z8 (Ze 55) [] 446 "stops_of"
def ZkC:Stmt:=Zo 0 soR.body
def soT:Expr:=match ZkC with | .For t _ _ _ _=>t | _=>.Name "" ⟨0,0,0,0⟩
def soB:List Stmt:=match ZkC with | .For _ _ b _ _=>b | _=>[]
def Yu (L C lev:Nat):Z3:=⟨soR.sc,L,[("look",C)],soR.code,ZU soR.qual,lev⟩
def soC:Expr:=Jj (Zo 0 soB)
def Zlo (F C lev:Nat):Z3:=⟨{ ZkO soC with names:=YG (Yu 0 1 0) (ZkO soC).names },F,[("look",C)],soR.code,ZU soR.qual,lev⟩
theorem Zae (h:J6 st a u)(h1:Has st acc (.list dn))(h2:Has st it (.itList c k))(h3:Has st fr (.frame m))(le:Le [acc,it,fr] st st1):J6 st1 a u:=by
 obtain ⟨r,p,s,e1,e2,e3,e4⟩:=h;have ok:∀ {i:Nat} {xs:List MV},Has st i (.tup xs)→Has st1 i (.tup xs):=fun hi=>hi.le le (by
  simp only [mem_cons,not_mem_nil,or_false,not_or];exact ⟨hi.ne h1 nofun,hi.ne h2 nofun,hi.ne h3 nofun⟩)
 exact ⟨r,p,s,e1,ok e2,ok e3,e4.imp (fun ⟨q,a,b⟩=>⟨q,a,ok b⟩) id⟩
theorem Zc7 (hn:Yg nt)(hlev:8≤lev)(hE:QQ st v e cs)(hL:Has st L (.frame F))(h1:Z2 "element" F=some (.ref e))(hp:Zh "rows" (.ref (st.n+1)) F=F')(hC:Has st C (.cell (some (.ref (v+2)))))(hl:YP st v (lkV "black" "black" "1")) :
  ∃ (st':St) (us:List MV),Run (Z1 nt orc) (.st (Zo 0 soB) (Yu L C lev)) st .nx st'∧Le [L] st st'∧Has st' L (.frame F')∧Has st' (st.n+1) (.list us)∧ZC (J6 st') cs us:=by
 obtain ⟨nm,a,ch,es,ws,hEl,hch,hz,hall⟩:=hE.ok
 let s1:=st.push (.itList ch 0)
 let s2:=(s1.push (.list [])).push (.frame [])
 have le2:Le [] st s2:=(Le.push.trans Le.push).trans Le.push;have hi:Has s2 st.n (.itList ch 0):=Has.new.push.push;have ha:Has s2 (st.n+1) (.list []):=Has.new.push;have hf:Has s2 (st.n+2) (.frame []):=Has.new;obtain ⟨s3,us,m,rc,le3,ha3,hq,hf3⟩:=Z1V (T:=Z1 nt orc) (ξ:=Zlo (st.n+2) C lev) (Q:=J6) (st0:=st) (elt:=ZkJ soC) (t:=(XD soC).target) (ifs:=(XD soC).ifs) (it:=st.n) (acc:=st.n+1) (fr:=st.n+2) (c:=ch) (x:="child") (xs:=ws.map .ref) rfl ∅ ∅ rfl
  (fun st st' a u dn k m h1 h2 h3 h4 h5=>Zae h1 h2 h3 h4 h5) (by omega) (by omega) (by omega) (W04 _) (by omega) (by omega) hch (S:=ZkN st v) (fun w r hS sx le hF=>by
   have hS:=hS.le le;have hCx:=hC.le0 le;have hlx:=hl.le le;have chR:∀ {sy:St} p,Le [] sx sy→Run (Z1 nt orc) (.ex (.Name "child" p) (Zlo (st.n+2) C lev)) sy (.v (.ref w)) sy:=fun p k=>Za (hF.le0 k) ∅ ∅ ∅ ∅
   cases r with
   | none =>
    (refine xEEE hS ?_;(try clear hS);intro a' c' es' hE)
    exact ⟨sx,Z3H (ZJ (a:=.str "desc") (b:=.str "stop") rfl (hE.name rfl (chR _ Le.refl)) (Z4 rfl) (fun ro=>∅)),Le.refl⟩
   | some c' =>
    (refine xAEAA hS ?_;(try clear hS);intro hc x o0 hst hx;subst o0)
    obtain ⟨sy,ry,ley,hly⟩:=Z9T (nt:=nt) (orc:=orc) (lev:=lev) hc hst hlx hx hlev;have hxn:x+8≤sx.n:=by have:=hlx.kv.1;omega
    obtain ⟨sz,u,rz,lez,hrow⟩:=ZbP (nt:=nt) (orc:=orc) (lev:=lev) hn hc (hst.le ley) hly hxn hlev;refine ⟨sx,sz,u,Z3H (ZJ (a:=.str "stop") (b:=.str "stop") rfl (hst.el.name rfl (chR _ Le.refl)) (Z4 rfl) (fun ro=>∅)),?_,ley.trans lez,hrow⟩;exact Zp rfl rfl rfl (Zf (v:=.old 454) ∅ ∅ ∅ ∅) (Zb (chR _ Le.refl) (Z9 (Zp rfl rfl rfl (Zf (v:=.old 428) ∅ ∅ ∅ ∅) (Zb (chR _ Le.refl) (Z9 (Ql (j:=C) ∅ ∅ ∅ hCx ∅))) ry))) rz)
  ws (none::cs.map some) 0 [] [] s2 hall le2 rfl hf (.inl rfl) hi ha (by first | omega | (simp;omega))
 have hq':ZC (J6 s3) cs us:=by
  have:(none::cs.map some).filterMap id=cs:=by
   rw [filterMap_cons];show (cs.map some).filterMap id=cs;rw [List.filterMap_map];exact List.filterMap_some
  rw [this] at hq;exact hq
 have hL3:Has s3 L (.frame F):=(hL.le0 le2).le le3 (by have:=hL.1;simp;omega)
 let s4:=s3.put L (.frame F')
 let s5:=s4.del (st.n+2)
 have hLn:=hL.1;refine ⟨s5,us,?_,?_,(Has.put_same hL3.1).del (by omega),(ha3.put (by omega)).del (by omega),?_⟩
 ·refine Z2a (a:=.ref ch) (st1:=st) (st2:=s1) (it:=st.n) (cs:=[("look",C)]) (m:=m) (st3:=s3) (st4:=s4) ∅ ∅ ∅ ∅ ∅ (hEl.children rfl (Za hL ∅ ∅ h1 ∅)) (fun ro=>QN hch) ?_ rc ?_ (hf3.put (by omega)).2
  ·rw [(Has.new:Has s1 st.n (.itList ch 0)).2]; rfl
  ·exact J5 (ξ:=Yu L C lev) hL3 ∅ ∅ hp
 ·have q1:Le [L] st s3:=(le2.of0 (M:=[L])).then le3 (by simp);have q2:Le [L,st.n+2] s3 s5:=(Le.put (by simp)).trans (Le.del (by simp));exact q1.then q2 (by simp)
 ·refine hq'.imp fun c' u hu=>?_;obtain ⟨r,p,s,e1,e2,e3,e4⟩:=hu;have ok:∀ {i:Nat} {xs:List MV},Has s3 i (.tup xs)→Has s5 i (.tup xs):=fun hi=>(hi.put (hi.ne hL3 nofun)).del (hi.ne hf3 nofun);exact ⟨r,p,s,e1,ok e2,ok e3,e4.imp (fun ⟨q,a,b⟩=>⟨q,a,ok b⟩) id⟩
noncomputable def QR:List (List (Nat×Nat×Nat))→List (Nat×Nat×Nat)
 | []=>[]
 | []::r=>QR r
 | (c::cs)::_=>c::cs
noncomputable def soF (c:Nat)(e r:Option MV):List (Str×MV):=(((ofString "elements"),MV.ref c):Str×MV)::((match e with | none=>[] | some v=>[((ofString "element"),v)])++(match r with | none=>[] | some v=>[((ofString "rows"),v)]))
theorem Z7q (c:Nat)(e r:Option MV)(v:MV)(hr:e=none→r=none):Zh "element" v (soF c e r)=soF c (some v) r∧Z2 "element" (soF c (some v) r)=some v∧∀ w,Zh "rows" w (soF c (some v) r)=soF c (some v) (some w)∧Z2 "rows" (soF c (some v) (some w))=some w:=by
 cases e with
 | none =>
  have:=hr rfl
  subst this;exact ⟨∅,∅,fun w=>⟨∅,∅⟩⟩
 | some e=>induction r using Option.casesOn<;>exact ⟨∅,∅,fun w=>⟨∅,∅⟩⟩
theorem Z8M (hn:Yg nt)(hlev:8≤lev)(hLi:L≠it)(nL:st0.n≤L)(nI:st0.n≤it)(hc:Has st0 c (.list xs))(hl:YP st0 v (lkV "black" "black" "1")):∀ (es:List Nat)(css:List (List (Nat×Nat×Nat)))(k:Nat)(e r:Option MV)(st:St),(e=none→r=none)→Le [] st0 st→ZC (QQ st0 v) es css→xs.drop k=es.map .ref→Has st L (.frame (soF c e r))→Has st it (.itList c k)→Has st C (.cell (some (.ref (v+2))))→C≠L→C≠it →
  (QR css=[]∧∃ st',Run (Z1 nt orc) (.forl soT it soB (Yu L C lev)) st .nx st'∧Le [] st0 st')∨(QR css≠[]∧∃ (st':St) (R:Nat) (us:List MV),Run (Z1 nt orc) (.forl soT it soB (Yu L C lev)) st (.ret (.ref R)) st'∧Le [] st0 st'∧Has st' R (.list us)∧ZC (J6 st') (QR css) us)
 | [],css,k,e,r,st,her,le,ht,hx,hL,hi,hC,_,_=>by
  cases css with
  | cons=>exact ht.elim
  | nil =>
   have q:Le [] st0 (st.del it):=le.then (M':=[it]) (Le.del (by simp)) (by simp;exact nI);exact .inl ⟨rfl,st.del it,Z4e fun ro=>Z1l hi (hc.le0 le) (drop_eq_nil_iff.mp hx),q⟩
 | e0::es,css,k,e,r,st,her,le,ht,hx,hL,hi,hC,hCL,hCi=>by
  cases css with
  | nil=>exact ht.elim
  | cons cs css =>
   obtain ⟨hE,ht⟩:=ht;have hk:xs[k]?=some (.ref e0):=by
    have:=congrArg head? hx
    simpa using this
   have hx':xs.drop (k+1)=es.map .ref:=by rw [← drop_drop,hx]; rfl
   obtain ⟨p1,p2,p3⟩:=Z7q c e r (.ref e0) her
   let s1:=st.put it (.itList c (k+1))
   let s2:=s1.put L (.frame (soF c (some (.ref e0)) r))
   have hL1:Has s1 L (.frame (soF c e r)):=hL.put hLi;have hL2:Has s2 L (.frame (soF c (some (.ref e0)) r)):=Has.put_same hL1.1;have hi2:Has s2 it (.itList c (k+1)):=(Has.put_same hi.1).put (Ne.symm hLi);have le02:Le [] st0 s2:=le.then (M':=[it,L]) ((Le.put (by simp)).trans (Le.put (by simp))) (by simp;exact ⟨nI,nL⟩);have hC2:Has s2 C (.cell (some (.ref (v+2)))):=(hC.put hCi).put hCL
   have nx:∀ ro,Zy (Z1 nt orc) ro st it=some (some (.ref e0),s1):=fun ro=>Z0W hi (hc.le0 le) hk;have as:Run (Z1 nt orc) (.asg soT (.ref e0) (Yu L C lev)) s1 .u s2:=ZH hL1 ∅ ∅ p1;obtain ⟨s3,us,r3,le3,hL3,ha3,hq3⟩:=Zc7 (nt:=nt) (orc:=orc) (lev:=lev) hn hlev (hE.le le02) hL2 p2 (p3 _).1 hC2 (hl.le le02)
   let s4:=s3.push (.list [])
   have le04:Le [] st0 s4:=(le02.then le3 (by simp;exact nL)).trans Le.push;have hlen:cs.isEmpty=us.isEmpty:=by
    cases cs with
    | nil=>cases us with
     | nil=>rfl
     | cons=>exact hq3.elim
    | cons=>cases us with
     | nil=>exact hq3.elim
     | cons=>rfl
   have tst:Run (Z1 nt orc) (.tst (ifT (Zo 1 soB)) (Yu L C lev)) s3 (.b (!us.isEmpty)) s4 :=
    ZJ (a:=.ref (s2.n+1)) (b:=.ref s3.n) rfl (Za hL3 ∅ ∅ (p3 _).2 ∅) (YW rfl YX (by show 0≤1000000;decide)) (fun ro=>Z0M ha3.push Has.new)
   cases cs with
   | nil =>
    rw [← hlen] at tst;have hn2:=hi2.1;have body:Run (Z1 nt orc) (.sts soB (Yu L C lev)) s2 .nx s4:=ZV r3 (JP (Y8 (d:=false) tst Ye));have hi4:Has s4 it (.itList c (k+1)):=(hi2.le le3 (by simp;exact Ne.symm hLi)).push;have hC4:Has s4 C (.cell (some (.ref (v+2)))):=(hC2.le le3 (by simp;exact hCL)).push;rcases Z8M hn hlev hLi nL nI hc hl es css (k+1) _ _ s4 (by nofun) le04 ht hx' hL3.push hi4 hC4 hCL hCi with ⟨h1,st',h2,h3⟩ | ⟨h1,st',R,us',h2,h3⟩
    ·exact .inl ⟨h1,st',QM nx rfl as body h2,h3⟩
    ·exact .inr ⟨h1,st',R,us',QM nx rfl as body h2,h3⟩
   | cons c0 cs =>
    rw [← hlen] at tst;refine .inr ⟨by show c0::cs≠[]; nofun,s4,s2.n+1,us,Z2Z nx rfl as (ZV r3 (Y5 (Y8 (d:=true) tst (Y5 (YA (Za hL3.push ∅ ∅ (p3 _).2 ∅)))))),le04,ha3.push,?_⟩;exact hq3.imp fun u0 u0 z=>z.le Le.push
theorem Z65:∃ st1,ZO soR [u,v] lev st=some (.u,st1)∧st1.n=st.n+2∧Le [] st st1∧Has st1 st.n (.frame [("elements",u)])∧Has st1 (st.n+1) (.cell (some v)):=by
 let s0:=(st.push (.frame [])).push (.cell none)
 have e:ZO soR [u,v] lev st=Zx (Yu st.n (st.n+1) lev) "elements" u s0 fun st'=>Zx (Yu st.n (st.n+1) lev) "look" v st' fun st=>some (.u,st):=rfl;have hL:Has s0 st.n (.frame []):=Has.new.push;have hC:Has s0 (st.n+1) (.cell none):=Has.new
 let s1:=s0.put st.n (.frame [("elements",u)])
 have hL1:Has s1 st.n (.frame [("elements",u)]):=Has.put_same hL.1;have hC1:Has s1 (st.n+1) (.cell none):=hC.put (by omega);refine ⟨s1.put (st.n+1) (.cell (some v)),?_,rfl,?_,hL1.put (by omega),Has.put_same hC1.1⟩
 ·rw [e,J5 (ξ:=Yu st.n (st.n+1) lev) hL ∅ ∅ (by kernel_rfl:Zh "elements" u []=[(ofString "elements",u)])];show Zx (Yu st.n (st.n+1) lev) "look" v s1 _=_;exact Z3v (ξ:=Yu st.n (st.n+1) lev) ∅ ∅ ∅ hC1
 ·have q:Le [st.n,st.n+1] s0 (s1.put (st.n+1) (.cell (some v))):=(Le.put (by simp)).trans (Le.put (by simp));have q0:Le [] st s0:=Le.push.trans Le.push;exact q0.then q (by simp)
theorem Z7H (hn:Yg nt)(hlev:8≤lev)(hc:Has st c (.list (es.map .ref)))(hE:ZC (QQ st v) es css)(hl:YP st v (lkV "black" "black" "1")) :
  ∃ (st':St) (R:Nat) (us:List MV),Run (Z1 nt orc) (.call (.old 447) [.ref c,.ref (v+2)] (lev+1)) st (.v (.ref R)) st'∧Le [] st st'∧Has st' R (.list us)∧ZC (J6 st') (QR css) us∧st.n≤st'.n:=by
 obtain ⟨st1,e1,n1,le1,hL,hC⟩:=Z65 (st:=st) (lev:=lev) (u:=.ref c) (v:=.ref (v+2))
 let st2:=st1.push (.itList c 0)
 have hL2:Has st2 st.n (.frame (soF c none none)):=hL.push;have hi2:Has st2 st1.n (.itList c 0):=Has.new;have le2:Le [] st st2:=le1.trans Le.push;have f:∀ {o:Out} {st':St},Run (Z1 nt orc) (.forl soT st1.n soB (Yu st.n (st.n+1) lev)) st2 o st'→Run (Z1 nt orc) (.st ZkC (Yu st.n (st.n+1) lev)) st1 o st':=fun h =>
  Z8L (a:=.ref c) (st1:=st1) (st2:=st2) rfl (Za hL ∅ ∅ ∅ ∅) (fun ro=>QN (hc.le0 le1)) h
 rcases Z8M (nt:=nt) (orc:=orc) (lev:=lev) (L:=st.n) (C:=st.n+1) (it:=st1.n) hn hlev (by omega) (W04 _) (by omega) hc hl es css 0 none none st2 (fun u0=>rfl) le2 hE rfl hL2 hi2 hC.push (by omega) (by omega) with ⟨h1,st',h2,h3⟩ | ⟨h1,st',R,us,h2,h3,h4,h5⟩
 ·refine ⟨st'.push (.list []),st'.n,[],Zeo (r:=soR) (o:=.ret (.ref st'.n)) rfl rfl e1 (ZV (f h2) (Y5 (YA (YW rfl YX (by show 0≤1000000;decide))))) rfl,h3.trans Le.push,Has.new,by rw [h1]; trivial,Nat.le_succ_of_le h3.1⟩
 ·exact ⟨st',R,us,Zeo (r:=soR) (o:=.ret (.ref R)) rfl rfl e1 (Y5 (f h2)) rfl,h3,h4,h5,h3.1⟩
end
section
variable {T:Tab}{nt:List Stmt}{orc:Orc}{st st1 st2:St}{ξ:Z3}
theorem Z0G:∀ {xs ys:List MV},ZC (fun a b=>p a b=some true) xs ys→JG p xs ys=some true
 | [],[],_=>rfl
 | x::xs,y::ys,zq2=>by
  obtain ⟨h,h'⟩:=zq2;show ((p x y).bind fun a=>(JG p xs ys).bind fun b=>some (a&&b))=some true;rw [h,Z0G h'];rfl
 | [],_::_,h=>h.elim
 | _::_,[],h=>h.elim
theorem Z8U:eqv T st (f+1) (.ref i) (.ref j)=(match beq i j with | true=>some true | false=>JX (eqv T st f) (st.get i) (st.get j)):=rfl
theorem Z4g (h1:Has st i (.tup xs))(h2:Has st j (.tup ys))(hn:xs.length=ys.length)(h:JG (eqv T st f) xs ys=some true):eqv T st (f+1) (.ref i) (.ref j)=some true:=by
 rw [Z8U,h1.2,h2.2]
 split
 ·rfl
 ·show (match beq xs.length ys.length with | true=>JG (eqv T st f) xs ys | false=>none)=_
  rw [hn,show beq ys.length ys.length=true from Nat.beq_refl _];exact h
theorem QS:eqv T st (f+1) (.int i) (.int i)=some true:=by
 show some (decide (i=i))=_
 rw [decide_eq_true rfl]
theorem Zaj:eqv T st (f+1) (.ref i) (.ref i)=some true:=by
 rw [Z8U,show beq i i=true from Nat.beq_refl _]
theorem Zam (hp:(∃ q,p = .ref q∧Has st q (YN i))∨(p = .old 104∧Zin i=(0,1)))(h:Has st q (YN i)):eqv (Z1 nt orc) st (f+2) p (.ref q)=some true:=by
 rcases hp with ⟨q',rfl,h'⟩ | ⟨rfl,hp⟩
 ·exact Z4g h' h rfl (Z0G ⟨QS,QS,trivial⟩)
 ·have:YN i = .tup [.int 0,.int 1]:=by unfold YN;rw [hp]
  rw [this] at h;show JX (eqv (Z1 nt orc) st (f+1)) (Zk5 (Z1 nt orc) 104) (st.get q)=some true;rw [h.2];show JG (eqv (Z1 nt orc) st (f+1)) [.int 0,.int 1] [.int 0,.int 1]=some true;exact Z0G ⟨QS,QS,trivial⟩
def Zk8 (st:St)(c:Nat×Nat×Nat)(u:MV):Prop:=∃ r q s,u = .ref r∧Has st r (.tup [.ref q,.ref s,.int (Ym c.2.2)])∧Has st s (J0 c.2.1)∧Has st q (YN c.1)
theorem Zdt (h:J6 st c u)(k:Zk8 st c v):eqv (Z1 nt orc) st 8 u v=some true:=by
 (refine xEEEAAA h ?_;(try clear h);intro r p s o0 h1 h2 h3;subst o0)
 (refine xEEEAAA k ?_;(try clear k);intro r' q s' o1 k1 k2 k3;subst o1)
 exact Z4g h1 k1 rfl (Z0G ⟨Zam h3 k3,Z4g h2 k2 rfl (Z0G ⟨QS,QS,QS,trivial⟩),QS,trivial⟩)
theorem Z6e {α β:Type}{R:α→β→Prop}:∀ {as:List α}{bs:List β},ZC R as bs→as.length=bs.length
 | [],[],_=>rfl
 | _::_,_::_,zq2=>by obtain ⟨_,h⟩:=zq2;simp [Z6e h]
 | [],_::_,h=>h.elim
 | _::_,[],h=>h.elim
theorem Z4D {α β γ:Type}{R:α→β→Prop}{R':α→γ→Prop}{S:β→γ→Prop}(h:∀ a b c,R a b→R' a c→S b c):∀ {as:List α}{bs:List β}{cs:List γ},ZC R as bs→ZC R' as cs→ZC S bs cs
 | [],[],[],_,_=>trivial
 | _::_,_::_,_::_,zq3,zq4=>by obtain ⟨h1,h2⟩:=zq3;obtain ⟨k1,k2⟩:=zq4;exact ⟨h _ _ _ h1 k1,Z4D h h2 k2⟩
 | [],[],_::_,_,k=>k.elim
 | [],_::_,_,h,_=>h.elim
 | _::_,[],_,h,_=>h.elim
 | _::_,_::_,[],_,k=>k.elim
theorem Z0B (h1:Has st i (.list xs))(h2:Has st j (.list ys))(h:ZC (fun a b=>eqv T st 8 a b=some true) xs ys):ZY T ro st .NotEq (.ref i) (.ref j)=some false∧ZY T ro st .Eq (.ref i) (.ref j)=some true:=by
 have e:rcv T ro st (.ref i) (.ref j)=some true:=by
  rw [Z6d h1 h2,Z6e h,show beq ys.length ys.length=true from Nat.beq_refl _];exact Z0G h
 refine ⟨?_,e⟩;show Qv (rcv T ro st (.ref i) (.ref j))=_;rw [e]; rfl
theorem Z1Z:∀ (l:List Nat),ZC (fun a b=>eqv T st 8 a b=some true) (l.map .ref) (l.map .ref)
 | []=>trivial
 | _::r=>⟨Zaj,Z1Z r⟩
theorem Z3O:ZY T ro st .NotEq (.str x) (.str x)=some false:=by
 show Qv (some (seq x x))=_
 rw [Z37,decide_eq_true rfl]; rfl
theorem Z5T:ZY T ro st .NotEq (.bool x) (.bool x)=some false:=by
 induction x using Bool.casesOn<;>rfl
theorem Elt.el (h:Elt st x y):El st (y+4) x.nm (y+2) (y+9) (Zm (Zw x.q)++lkE x.lk):=⟨y+3,h.b 4 _ rfl,h.b 3 _ rfl,h.b 2 _ rfl⟩
theorem Z93:∀ (cs:List (Nat×Nat×Nat))(x:Nat),Xw x cs=((List.range cs.length).map (fun t=>x+8*t+3)).map .ref
 | [],_=>rfl
 | c::r,x=>by
  show MV.ref (x+3)::Xw (x+8) r=_
  rw [Z93 r,length_cons,range_succ_eq_map];simp only [map_cons,map_map]
  congr 1
  refine W0f fun t u0=>?_;show MV.ref (x+8+8*t+3)=MV.ref (x+8*(t+1)+3);rw [show x+8+8*t+3=x+8*(t+1)+3 by omega]
theorem Z8w:∀ (cs:List (Nat×Nat×Nat))(x:Nat),QP st x cs→(∀ c∈cs,Q8 c)→x+8*cs.length≤v→ZC (ZkN st v) ((List.range cs.length).map (fun t=>x+8*t+3)) (cs.map some)
 | [],_,_,_,_=>trivial
 | c::r,x,zq2,hc,hx=>by
  obtain ⟨⟨k0,k1,k2,k3,k4,k5,k6⟩,hr⟩:=zq2;simp only [length_cons] at hx;rw [length_cons,range_succ_eq_map];simp only [map_cons,map_map];refine ⟨⟨hc c W0d,x,rfl,⟨k0,k1,k2,k3⟩,by omega⟩,?_⟩;have:=Z8w (v:=v) r (x+8) hr (fun c hc'=>hc c (.tail _ hc')) (by omega);rw [show (List.map ((fun t=>x+8*t+3) ∘ Nat.succ) (List.range r.length))=List.map (fun t=>x+8+8*t+3) (List.range r.length) from map_congr_left fun t u0=>by show x+8*(t+1)+3=x+8+8*t+3;omega]
  exact this
theorem Elt.elch (h:Elt st x y)(hc:∀ c∈x.cs,Q8 c)(hm:x.cs.length≤2)(hv:y+31≤v):QQ st v (y+4) x.cs :=
 ⟨x.nm,y+2,y+9,_,(y+8)::(List.range x.cs.length).map (fun t=>y+11+8*t+3),h.el,(congrArg (fun l=>Has st (y+9) (.list (MV.ref (y+8)::l))) (Z93 x.cs (y+11))).mp (h.b 9 _ rfl),by rw [length_cons,length_map,length_range]; omega,⟨y+5,y+6,_,y+7,h.b 8 _ rfl,h.b 7 _ rfl,h.b 5 _ rfl⟩,Z8w x.cs (y+11) h.stps hc (by omega)⟩
theorem QP.due:∀ {cs:List (Nat×Nat×Nat)}{x:Nat},QP st x cs→ZC (Zk8 st) cs (Zjg x cs)
 | [],_,_=>trivial
 | _::_,x,zq2=>by obtain ⟨⟨_,_,_,_,k4,k5,k6⟩,hr⟩:=zq2;exact ⟨⟨x+6,x+4,x+5,rfl,k6,k5,k4⟩,hr.due⟩
theorem Z2G (h:decide (k=x)=true):Z2 x (Zm (Q7 k o)++m)=(o.map MV.str).or (Z2 x m):=by
 cases o using Option.casesOn with
 | none=>rfl
 | some v=>show (match decide (k=x) with | true=>some (.str v) | false=>Z2 x m)=some (.str v);rw [h]
theorem Jz (h:decide (k=x)=false):Z2 x (Zm (Q7 k o)++m)=Z2 x m:=by
 cases o using Option.casesOn with
 | none=>rfl
 | some v=>show (match decide (k=x) with | true=>some (.str v) | false=>Z2 x m)=Z2 x m;rw [h]
theorem ZaL (q:Own)(h1:Z2 "spreadMethod" m=none)(h2:Z2 "gradientUnits" m=none)(h3:Z2 "x1" m=none)(h4:Z2 "cy" m=none) :
  Z2 "spreadMethod" (Zm (Zw q)++m)=q.sp.map .str∧Z2 "gradientUnits" (Zm (Zw q)++m)=q.un.map .str∧Z2 "x1" (Zm (Zw q)++m)=q.x1.map .str∧Z2 "cy" (Zm (Zw q)++m)=q.cy.map .str:=by
 rw [show Zm (Zw q)++m=Zm (Q7 "spreadMethod" q.sp)++(Zm (Q7 "gradientUnits" q.un)++(Zm (Q7 "x1" q.x1)++(Zm (Q7 "cy" q.cy)++m))) by
  unfold Zw Zm;rw [map_append,map_append,map_append,append_assoc,append_assoc,append_assoc]]
 refine ⟨?_,?_,?_,?_⟩
 ·rw [Z2G ∅,Jz ∅,Jz ∅,Jz ∅,h1,or_none]
 ·rw [Jz ∅,Z2G ∅,Jz ∅,Jz ∅,h2,or_none]
 ·rw [Jz ∅,Jz ∅,Z2G ∅,Jz ∅,h3,or_none]
 ·rw [Jz ∅,Jz ∅,Jz ∅,Z2G ∅,h4,or_none]
theorem QT (q:Own)(lk:Option (Bool×Str)):(Z2 "spreadMethod" (Zm (Zw q))=q.sp.map .str∧Z2 "gradientUnits" (Zm (Zw q))=q.un.map .str∧Z2 "x1" (Zm (Zw q))=q.x1.map .str∧Z2 "cy" (Zm (Zw q))=q.cy.map .str) ∧
  (Z2 "spreadMethod" (Zm (Zw q)++lkE lk)=q.sp.map .str∧Z2 "gradientUnits" (Zm (Zw q)++lkE lk)=q.un.map .str∧Z2 "x1" (Zm (Zw q)++lkE lk)=q.x1.map .str∧Z2 "cy" (Zm (Zw q)++lkE lk)=q.cy.map .str):=by
 refine ⟨append_nil (Zm (Zw q))▸ZaL q (m:=[]) rfl rfl rfl rfl,ZaL q ?_ ?_ ?_ ?_⟩<;>rcases lk with _ | ⟨_ | _,_⟩<;>kernel_rfl
theorem Z8E (q:Own):Zj6 (Zm (Zw q)++lkE none) none:=by
 rcases q with ⟨_ | _,_ | _,_ | _,_ | _⟩<;>exact ⟨∅,∅⟩
theorem Z3r (q:Own)(wd:Bool)(t w:Str)(h:(t,w)∈lnkTab):Zj6 (Zm (Zw q)++lkE (some (wd,t))) (some w):=by
 refine ⟨t,h,?_⟩
 cases wd with
 | true=>exact .inl (by rcases q with ⟨_ | _,_ | _,_ | _,_ | _⟩<;>kernel_rfl)
 | false=>exact .inr (by rcases q with ⟨_ | _,_ | _,_ | _,_ | _⟩<;>exact ⟨∅,∅⟩)
end
noncomputable def Zjy (st:St):List MV→Option (List (Str×MV))
 | []=>some []
 | .ref t::r=>Zlm (st.get t) fun l=>g2 l fun x v=>gS x fun k=>gO (Zjy st r) fun ps=>some ((k,v)::ps)
 | _=>none
theorem Z4J {st:St}:∀ {xs:List MV}{ps:List (Str×MV)},Zjy st xs=some ps→Qr st xs ps
 | [],ps,h=>by cases h;trivial
 | .ref t::r,ps,h=>by
  refine Zb6 h ?_;clear h;intro l h1 h;refine ZcT h ?_;clear h;intro x v oq h;subst oq;refine Xj h ?_;clear h;intro k oq h;subst oq;refine Xv h ?_;clear h;intro ps' h2 h
  cases h
  exact ⟨⟨t,rfl,h1⟩,Z4J h2⟩
 | .none::_,_,h=>by cases h
 | .bool _::_,_,h=>by cases h
 | .int _::_,_,h=>by cases h
 | .str _::_,_,h=>by cases h
 | .old _::_,_,h=>by cases h
 | .bi _::_,_,h=>by cases h
def dpO:Orc:=fun f args u0 st=>Zl1 f (g1 args fun x=>gR x fun i=>Zly (st.get i) fun xs=>gB (ble xs.length 1000) (gO (Zjy st xs) fun ps=>some (.v (.ref st.n),Yx (st.push (.dict (putAll ps []))) none)))
theorem dpA (nt:List Stmt):Je nt dpO:=by
 intro c o W f args lev st r st' e;refine ZbC e ?_;clear e;intro oq e;subst oq;refine Zej e ?_;clear e;intro x oq e;subst oq;refine Ze3 e ?_;clear e;intro i oq e;subst oq;refine ZaJ e ?_;clear e;intro xs h1 e;refine Js e ?_;clear e;intro h2 e;refine Xv e ?_;clear e;intro ps h3 e
 cases e
 exact Z4r W h1 (Z4J h3) (W06 h2)
def T5 (nt:List Stmt):Tab:=Z1 nt dpO
def riR:ZF:=Z8 (Ze 74) [] 605 "_law_right"
def Zk (L lev:Nat):Z3:=⟨riR.sc,L,[("ids",L+2),("chain",L+1)],riR.code,ZU riR.qual,lev⟩
def riS (n:Nat):Stmt:=Zo n riR.body
noncomputable def eT (k:Nat):Str:=⟨#[101,48+k]⟩
noncomputable def Zt:Nat→List Nat→List (Str×MV)
 | _,[]=>[]
 | k,e::r=>(eT k,.ref e)::Zt (k+1) r
section
variable {T:Tab}{nt:List Stmt}{orc:Orc}{st st1 st2:St}{ξ:Z3}
noncomputable def ZjT (N:Nat):List (Option MObj):=[none,some (.cell (some (.ref 3))),none,some (.list ((List.range N).map fun k=>.ref (4+k)))]++replicate N none
def XE (nt:List Stmt)(N:Nat):Prop :=
 ZM (T5 nt) 400 (.ex (Jj (riS 1)) ⟨riR.sc,0,[("ids",2),("chain",1)],riR.code,ZU riR.qual,18⟩) (ZjT N) (N+4) [N+4+(4+2*N)] (.v (.ref (N+4+(4+2*N)))) (N+4+(4+2*N)+2) (ZjT N) [some (.dict (Zt 0 ((List.range N).map (4+·))))]
theorem Zef (nt:List Stmt):XE nt 1∧XE nt 2∧XE nt 3∧XE nt 4∧XE nt 8∧XE nt 9:=⟨⟨∅,∅⟩,⟨∅,∅⟩,⟨∅,∅⟩,⟨∅,∅⟩,⟨∅,∅⟩,⟨∅,∅⟩⟩
def JA (N:Nat):Prop:=N=1∨N=2∨N=3∨N=4∨N=8∨N=9
theorem Z6a:∀ {l:List Nat}{k:Nat},ZZ f (Zt k l)=Zt k (l.map f)
 | [],_=>rfl
 | _::_,k=>congrArg (_::·) (Z6a (k:=k+1))
theorem Z4F:∀ {l:List Nat},Zj l (replicate l.length none)=[]
 | []=>rfl
 | _::l=>Z4F (l:=l)
theorem Z52:∀ {l:List Nat},(∀ e∈l,e<st.n)→ZG st f l (replicate l.length none)
 | [],_=>trivial
 | _::_,h=>⟨h _ W0d,Z52 fun e q=>h e (.tail _ q)⟩
theorem Z53:(List.range es.length).map (fun k=>idx (a::b::c::d::es) (4+k))=es:=by
 refine List.ext_getElem (by rw [length_map,length_range]) fun i h1 h2=>?_;rw [List.getElem_map,List.getElem_range];unfold idx;rw [add_comm];show es.getD i 0=_;exact (List.getElem_eq_getD 0).symm
theorem Zc1 (hN:JA es.length)(hC:Has st (L+1) (.cell (some (.ref c))))(hc:Has st c (.list (es.map .ref)))(hL:L<st.n)(hI:L+2<st.n)(he:∀ e∈es,e<st.n) :
  ∃ st',Run (Z1 nt orc) (.ex (Jj (riS 1)) (Zk L 18)) st (.v (.ref st.n)) st'∧Le [] st st'∧Has st' st.n (.dict (Zt 0 es)):=by
 have A:=Zef nt;have hr:XE nt es.length:=by
  rcases hN with h | h | h | h | h | h<;>rw [h]
  ·exact A.1
  ·exact A.2.1
  ·exact A.2.2.1
  ·exact A.2.2.2.1
  ·exact A.2.2.2.2.1
  ·exact A.2.2.2.2.2
 have hin:Y1 (below (es.length+4)) (ZjT es.length)=true:=by
  rcases hN with h | h | h | h | h | h<;>rw [h]<;>rfl
 have hl:((List.range es.length).map fun k=>MV.ref (4+k)).map (Zl (idx (L::(L+1)::(L+2)::c::es)))=es.map .ref:=by
  rw [map_map];exact (map_map (f:=fun k=>idx (L::(L+1)::(L+2)::c::es) (4+k)) (g:=MV.ref)).symm.trans (congrArg _ Z53)
 have hfit:ZG st (idx (L::(L+1)::(L+2)::c::es)) (L::(L+1)::(L+2)::c::es) (ZjT es.length):=⟨hL,hC,hI,(show Has st c (.list (((List.range es.length).map fun k=>MV.ref (4+k)).map (Zl (idx (L::(L+1)::(L+2)::c::es))))) from hl▸hc),Z52 he⟩;have hnd:(Zj (L::(L+1)::(L+2)::c::es) (ZjT es.length)).Nodup:=by
  show ((L+1)::c::Zj es (replicate es.length none)).Nodup
  rw [Z4F];exact ndc (nm1 (hC.ne hc nofun)) (ndc nofun .nil)
 have g0:gOf (es.length+4) st.n [es.length+4+(4+2*es.length)] (idx (L::(L+1)::(L+2)::c::es)) (es.length+4+(4+2*es.length))=st.n:=by
  rw [Z3L]
  ·show st.n+idxOf _ [_]=_
   rw [List.idxOf_cons_self];rfl
  ·exact Bool.eq_false_iff.mpr fun q=>absurd (W06 q) (by omega)
 refine xEA (Qn (dpA nt).g (st:=st) (fl:=L::(L+1)::(L+2)::c::es) hr rfl hfit hnd) ?_;intro st' m ran;refine ⟨st',?_,ran.keeps hfit hnd hin fun i o hi=>.inl hi,?_⟩
 ·have m:Run (Z1 nt orc) (.ex (Jj (riS 1)) (Zk L 18)) st (.v (.ref ((gOf (es.length+4) st.n [es.length+4+(4+2*es.length)] (idx (L::(L+1)::(L+2)::c::es))) (es.length+4+(4+2*es.length))))) st':=Yo m
  rwa [g0] at m
 ·have m:Has st' st.n (.dict (ZZ (gOf (es.length+4) st.n [es.length+4+(4+2*es.length)] (idx (L::(L+1)::(L+2)::c::es))) (Zt 0 ((List.range es.length).map (4+·))))):=ran.new 0 _ rfl;have q:(List.range es.length).map ((gOf (es.length+4) st.n [es.length+4+(4+2*es.length)] (idx (L::(L+1)::(L+2)::c::es))) ∘ (4+·))=es:=(W0f fun k hk=>Z5r (4+k) (Jq.mpr (by have:=mem_range.mp hk;omega))).trans Z53
  rw [Z6a,map_map,q] at m;exact m
theorem ZdF (nt:List Stmt):ZM (Z1 nt Y7) 200 (.ex (Jj (riS 8)) ⟨riR.sc,0,[("ids",2),("chain",1)],riR.code,ZU riR.qual,18⟩) [none,none,none] 3 [3,4,5,6] (.v (.ref 6)) 8 [none,none,none] [some (.tup [.int 30,.int 1]),some (.tup [.int 70,.int 1]),some (.dict [("width",.ref 3),("height",.ref 4)]),some (.inst 538 5)]:=⟨∅,∅⟩
theorem Zbz (hL:L+2<st.n):∃ st',Run (Z1 nt orc) (.ex (Jj (riS 8)) (Zk L 18)) st (.v (.ref (st.n+3))) st'∧Le [] st st'∧Xy st' (st.n+3) st.n (st.n+1):=by
 have hfit:ZG st (idx [L,L+1,L+2]) [L,L+1,L+2] [none,none,none]:=⟨by omega,by omega,hL,trivial⟩
 (refine xEA (Qn noG (st:=st) (fl:=[L,L+1,L+2]) (ZdF nt) rfl hfit (by simp [Zj])) ?_;intro st' m ran)
 exact ⟨st',Yo m,ran.le,⟨⟨st.n+2,ran.new 3 _ rfl,ran.new 2 _ rfl⟩,ran.new 0 _ rfl,ran.new 1 _ rfl⟩⟩
theorem Zee (h:eT a=eT b):a=b:=by
 unfold eT at h;have h:=congrArg (fun s:Str=>s.cps.toList) h;simp at h;exact h
theorem Z3g:∀ {es:List Nat}{k j e:Nat},es[j]?=some e→Z2 (eT (k+j)) (Zt k es)=some (.ref e)
 | [],k,j,e,h=>by simp at h
 | x::r,k,0,e,h=>by
  simp at h;subst h;unfold Zt Z2;rw [decide_eq_true (show eT k=eT (k+0) from rfl)]
 | x::r,k,j+1,e,h=>by
  have h:r[j]?=some e:=by simpa using h
  unfold Zt Z2;rw [decide_eq_false (fun q=>by have:=Zee q;omega)];show Z2 (eT (k+(j+1))) (Zt (k+1) r)=_;rw [show k+(j+1)=k+1+j by omega];exact Z3g h
theorem Z4S:∀ {es:List Nat}{k:Nat},Z2 "none" (Zt k es)=none
 | [],_=>rfl
 | x::r,k=>by
  unfold Zt Z2;rw [show decide (eT k=ofString "none")=false from decide_eq_false fun q=>by
   have:=congrArg (fun s:Str=>s.cps.size) q
   have e:(ofString "none").cps.size=4:=by kernel_rfl
   simp only [e] at this;exact absurd this (by show ¬ 2=4;decide)]
  exact Z4S
theorem ZbO:QW (fun k=>(Jw k,eT (k+1))) 8=QX (fun k=>lnkTab.getD (k+1) ("","")) 8:=∅
theorem Z5R (k:Nat)(h:k<8):(Jw k,eT (k+1))∈lnkTab:=by
 have e:=XN ZbO k h;have hk:k+1<lnkTab.length:=show k+1<10 by omega
 refine e▸?_;show lnkTab.getD (k+1) ("","")∈lnkTab;rw [← List.getElem_eq_getD (h:=hk)];exact List.getElem_mem hk
theorem ZcX:(ofString "#e0",eT 0)∈lnkTab:=by
 rw [show eT 0=ofString "e0" by kernel_rfl];unfold lnkTab;simp
theorem Z9p:(ofString "#none",ofString "none")∈lnkTab:=by
 unfold lnkTab;simp
def smC:Expr:=Jj (riS 4)
def ZlY (F L lev:Nat):Z3:=⟨{ ZkO smC with names:=YG (Zk 0 0) (ZkO smC).names },F,[],riR.code,ZU riR.qual,lev⟩
theorem Zaq {css:List (List (Nat×Nat×Nat))}(hL:Has st L (.frame F))(h1:Z2 "stops" F=some (.ref c))(hp:Zh "some" (.ref (st.n+1)) F=F')(hc:Has st c (.list (zs.map .ref)))(hz:zs.length<1000)
  (hall:ZC (fun z cs=>∃ xs:List MV,Has st z (.list xs)∧(xs=[]↔cs=[])) zs css) :
  ∃ (st':St),Run (Z1 nt orc) (.st (riS 4) (Zk L lev)) st .nx st'∧Le [L] st st'∧Has st' L (.frame F')∧Has st' (st.n+1) (.list (((zs.zip css).filterMap fun p=>if p.2.isEmpty then none else some p.1).map .ref)):=by
 let s1:=st.push (.itList c 0)
 let s2:=(s1.push (.list [])).push (.frame [])
 have le2:Le [] st s2:=(Le.push.trans Le.push).trans Le.push;have hi:Has s2 st.n (.itList c 0):=Has.new.push.push;have ha:Has s2 (st.n+1) (.list []):=Has.new.push;have hf:Has s2 (st.n+2) (.frame []):=Has.new
 let S:Nat→Option Nat→Prop:=fun z r=>∃ xs:List MV,Has st z (.list xs)∧r=if xs.isEmpty then none else some z
 have hS:∀ (zs:List Nat) (css:List (List (Nat×Nat×Nat))),ZC (fun z cs=>∃ xs:List MV,Has st z (.list xs)∧(xs=[]↔cs=[])) zs css→ZC S zs ((zs.zip css).map fun p=>if p.2.isEmpty then none else some p.1):=by
  intro zs
  induction zs with
  | nil=>intro css h;cases css with
   | nil=>trivial
   | cons=>exact h.elim
  | cons z r ih=>intro css h;cases css with
   | nil=>exact h.elim
   | cons cs css =>
    (refine xA h ?_;intro o0 h;obtain ⟨xs,h1,h2⟩:=o0)
    refine ⟨⟨xs,h1,?_⟩,ih css h⟩;show (if cs.isEmpty=true then none else some z)=_
    cases cs with
    | nil=>rw [h2.mpr rfl]; rfl
    | cons=>cases xs with
     | nil=>exact absurd (h2.mp rfl) nofun
     | cons=>rfl
 obtain ⟨s3,us,m,rc,le3,ha3,hq,hf3⟩:=Z1V (T:=Z1 nt orc) (ξ:=ZlY (st.n+2) L lev) (Q:=fun _ (a:Nat) u=>u=MV.ref a) (st0:=st) (elt:=ZkJ smC) (t:=(XD smC).target) (ifs:=(XD smC).ifs) (it:=st.n) (acc:=st.n+1) (fr:=st.n+2) (c:=c) (x:="rows") (xs:=zs.map .ref) rfl ∅ ∅ rfl
  (fun u0 u0 u0 u0 u0 u0 u0 h u0 u0 u0 u0=>h) (by omega) (by omega) (by omega) (W04 _) (by omega) (by omega) hc (S:=S) (fun w r hS sx le hF=>by
   obtain ⟨xs,h1,h2⟩:=hS;have hw:=h1.le0 le;have row:∀ {sy:St} p,Le [] sx sy→Run (Z1 nt orc) (.ex (.Name "rows" p) (ZlY (st.n+2) L lev)) sy (.v (.ref w)) sy:=fun p k=>Za (hF.le0 k) ∅ ∅ ∅ ∅;have tst:Run (Z1 nt orc) (.ifs (XD smC).ifs (ZlY (st.n+2) L lev)) sx (.b (!xs.isEmpty)) (sx.push (.list [])):=Z3H (ZJ (a:=.ref w) (b:=.ref sx.n) rfl (row _ Le.refl) (YW rfl YX (by show 0≤1000000;decide)) (fun ro=>Z0M hw.push Has.new))
   cases xs with
   | nil =>
    have h2:r=none:=h2;subst h2;exact ⟨_,tst,Le.push⟩
   | cons v xs =>
    have h2:r=some w:=h2;subst h2;exact ⟨_,_,.ref w,tst,row _ Le.push,Le.push,rfl⟩)
  zs ((zs.zip css).map fun p=>if p.2.isEmpty then none else some p.1) 0 [] [] s2 (hS zs css hall) le2 rfl hf (.inl rfl) hi ha (by first | omega | (simp;omega))
 have hus:us=((zs.zip css).filterMap fun p=>if p.2.isEmpty then none else some p.1).map .ref:=by
  have e:∀ {l:List Nat} {us:List MV},ZC (fun a u=>u=MV.ref a) l us→us=l.map .ref:=by
   intro l
   induction l with
   | nil=>intro us h;cases us with
    | nil=>rfl
    | cons=>exact h.elim
   | cons a r ih=>intro us h;cases us with
    | nil=>exact h.elim
    | cons u us=>(refine xA h ?_;intro h h');rw [h,ih h']; rfl
  rw [e hq,List.filterMap_map];rfl
 rw [List.nil_append,hus] at ha3;have hLn:=hL.1;have hL3:Has s3 L (.frame F):=(hL.le0 le2).le le3 (by first | omega | (simp;omega))
 let s4:=s3.put L (.frame F')
 let s5:=s4.del (st.n+2)
 refine ⟨s5,?_,?_,(Has.put_same hL3.1).del (by omega),(ha3.put (by omega)).del (by omega)⟩
 ·refine Z2a (a:=.ref c) (st1:=st) (st2:=s1) (it:=st.n) (cs:=[]) (m:=m) (st3:=s3) (st4:=s4) ∅ ∅ ∅ ∅ ∅ (Za hL ∅ ∅ h1 ∅) (fun ro=>QN hc) ?_ rc ?_ (hf3.put (by omega)).2
  ·rw [(Has.new:Has s1 st.n (.itList c 0)).2]; rfl
  ·exact J5 (ξ:=Zk L lev) hL3 ∅ ∅ hp
 ·have q1:Le [L] st s3:=(le2.of0 (M:=[L])).then le3 (by simp);have q2:Le [L,st.n+2] s3 s5:=(Le.put (by simp)).trans (Le.del (by simp));exact q1.then q2 (by simp)
end
structure QU (c:Cfg)(T:Tab):Prop where
 W:Z5 c T
 X:c.X
 f49:ZcB c 49 YJ
 f77:Z3c c 77
 f101:Z3c c 101
 e1:exmOne c.K (.ref 101) (.ref 101)=some true
 e2:exmOne c.K (.ref 77) (.ref 101)=some false
 e3:exmOne c.K (.ref 77) (.ref 77)=some true
 l603:Xo c 603 605
 l608:Xo c 608 610
theorem QU.withG (h:QU c T)(L:Addr):QU (c.withG L) T :=
 ⟨h.W.withG L,h.X,⟨h.f49.keep,h.f49.fd⟩,⟨h.f77.msg,h.f77.keep,h.f77.init,h.f77.obj⟩,⟨h.f101.msg,h.f101.keep,h.f101.init,h.f101.obj⟩,h.e1,h.e2,h.e3,⟨h.l603.built,h.l603.code⟩,⟨h.l608.built,h.l608.code⟩⟩
def Zz (T:Tab)(cmd:Cmd)(st:St)(k:Nat)(st':St):Prop:=∀ c,QU c T→ZQ c T cmd st k st'
def Zd (T:Tab)(cmd:Cmd)(st:St)(o:Out)(st':St):Prop:=∀ c,QU c T→Z0 c T cmd st o st'
section
variable {T:Tab}{nt:List Stmt}{orc:Orc}{st st' st1 st2 st3 st4:St}{ξ:Z3}{e e1 e2 e3:Expr}{p p1 p2 p3:Pos}{x y:Str}{a b v u:MV}{o o':Out}{l:List Stmt}{t:Stmt}{k:Nat}
theorem Run.L (h:Run T cmd st o st'):Zd T cmd st o st':=fun c W=>h c W.W
theorem Z51:Zd T (.sts [] ξ) st .nx st:=Ye.L
theorem Ya (h1:Zd T (.st t ξ) st .nx st1)(h:Zd T (.sts l ξ) st1 o st'):Zd T (.sts (t::l) ξ) st o st':=fun c W=>QI (h1 c W) (h c W)
theorem Z6l (h1:Zd T (.st t ξ) st (.ret v) st1):Zd T (.sts (t::l) ξ) st (.ret v) st1:=fun c W=>Z5i (h1 c W)
theorem Zc0 (h1:Zd T (.ex e ξ) st (.v v) st1):Zd T (.st (.Return (some e) p) ξ) st (.ret v) st1:=fun c W=>Z8R (h1 c W)
theorem Zem (h1:Zd T (.tst e ξ) st (.b d) st1)(h2:Zd T (.sts (if d then b1 else b2) ξ) st1 o st'):Zd T (.st (.If e b1 b2 p) ξ) st o st':=fun c W=>Zcz (h1 c W) (h2 c W)
theorem Zbe (hs:ZI e2=false)(h1:Zd T (.ex e1 ξ) st (.v a) st1)(h2:Zd T (.ex e2 ξ) st1 (.v b) st2)(h:∀ ro,ZY T ro st2 op a b=some d):Zd T (.ex (.Compare e1 [op] [e2] p) ξ) st (.v (.bool d)) st2:=fun c W=>ZbU W.W hs (h1 c W) (h2 c W) (h c.ro)
theorem ZaM (hs:ZI e2=false)(h1:Zd T (.ex e1 ξ) st (.v a) st1)(h2:Zd T (.ex e2 ξ) st1 (.v b) st2)(h:∀ ro,ZY T ro st2 op a b=some d):Zd T (.tst (.Compare e1 [op] [e2] p) ξ) st (.b d) st2:=fun c W=>Z3E W.W hs (h1 c W) (h2 c W) (h c.ro)
theorem ZdQ (h1:Zd T (.tst e ξ) st (.b d) st1):Zd T (.tst (.UnaryOp .Not e p) ξ) st (.b (!d)) st1:=fun c W=>Z98 (h1 c W)
theorem Zdc (hp:Zhk e=true)(h1:Zd T (.ex e ξ) st (.v (.bool d)) st1):Zd T (.tst e ξ) st (.b d) st1:=fun c W=>Z8S hp (h1 c W)
theorem Z9o (h3:Zd T (.ex e ξ) st (.v v) st1)(h4:Zd T (.exs rest ξ) st1 (.vs xs) st2):Zd T (.exs (e::rest) ξ) st (.vs (v::xs)) st2:=fun c W=>Z8x (h3 c W) (h4 c W)
theorem ZaZ:Zd T (.exs [] ξ) st (.vs []) st:=YX.L
theorem Zd7 (hs:es.any Zq=false)(h1:Zd T (.exs es ξ) st (.vs xs) st1)(hz:xs.length≤1000000):Zd T (.ex (.List es p) ξ) st (.v (.ref st1.n)) (st1.push (.list xs)):=fun c W=>Z8m W.W hs (h1 c W) hz
theorem ZdG (hf:Qz f=false)(hs:args.any Zq=false)(hfun:YS T fv=true)(h1:Zd T (.ex f ξ) st (.v fv) st1)(h2:Zd T (.exs args ξ) st1 (.vs vs) st2)(h:Zd T (.call fv vs ξ.lev) st2 (.v v) st') :
  Zd T (.ex (.Call f args [] p) ξ) st (.v v) st':=fun c W=>Z58 W.W hf hs hfun (h1 c W) (h2 c W) (h c W)
theorem ZfC (hr:T.fn k=some r)(hb:Yw r.ps r.dfl args=some bs)(h1:ZO r bs lev st=some (.u,st1))(h2:Zd T (.sts r.body (Zv r st.n lev)) st1 o st')(hx:JL o=some v):Zd T (.call (.old k) args (lev+1)) st (.v v) st' :=
 fun c W=>ZdB W.W hr hb h1 (fun L=>h2 _ (W.withG L)) hx
theorem ZeC (hs:ZI e2=false)(h1:Zd T (.ex e2 ξ) st (.v a) st1)(h2:∀ ro,ZT T ro st1 a (fun i st=>some (.v (.ref i),st))=some (.v (.ref i),st2))(h:Zd T (.forl e1 i b1 ξ) st2 o st'):Zd T (.st (.For e1 e2 b1 [] p) ξ) st o st' :=
 fun c W=>ZbT W.W hs (h1 c W) (h2 c.ro) (h c W)
theorem Z5o (hx:∀ ro,Zy T ro st it=some (none,st1)):Zd T (.forl e it b1 ξ) st .nx st1:=fun c W=>Z5l W.W (hx c.ro)
theorem ZdM (hx:∀ ro,Zy T ro st it=some (some v,st1))(hl:YF e it v st1=some st2)(ha:Zd T (.asg e v ξ) st2 .u st3)(hb:Zd T (.sts b1 ξ) st3 .nx st4)(hn:Zd T (.forl e it b1 ξ) st4 o st'):Zd T (.forl e it b1 ξ) st o st' :=
 fun c W=>Z3F W.W (hx c.ro) hl (ha c W) (hb c W) (.inl ⟨rfl,hn c W⟩)
theorem Zfl (h1:Zd T (.ex e1 ξ) st (.v (.bool true)) st1)(h2:Zd T (.ex e2 ξ) st1 (.v v) st2):Zd T (.ex (.BoolOp .And [e1,e2] p) ξ) st (.v v) st2:=by
 exact fun c W=>Zb1 (Zdx (h1 c W) (fun u0=>ZaN (h2 c W)) nofun)
theorem Z1m (hl:ξ.lev=lev+1)(hs:args.any Zq=false)(h1:Run T (.ex (.Name X np) ξ) st (.v (.old 77)) st1)(h2:Run T (.exs args ξ) st1 (.vs [m]) st2):Zz T (.st (.Raise (some (.Call (.Name X np) args [] cpos)) none pos) ξ) st 77 st2 :=
 fun c W=>Z8z W.W W.f49 W.f77 hl hs (h1 c W.W) (h2 c W.W)
theorem Z5J (hl:ξ.lev=lev+1)(hs:args.any Zq=false)(h1:Run T (.ex (.Name X np) ξ) st (.v (.old 101)) st1)(h2:Run T (.exs args ξ) st1 (.vs [m]) st2):Zz T (.st (.Raise (some (.Call (.Name X np) args [] cpos)) none pos) ξ) st 101 st2 :=
 fun c W=>Z8z W.W W.f49 W.f101 hl hs (h1 c W.W) (h2 c W.W)
theorem XF (hf:Qz f=false)(hs:args.any Zq=false)(hfun:YS T fv=true)(h1:Run T (.ex f ξ) st (.v fv) st1)(h2:Run T (.exs args ξ) st1 (.vs vs) st2)(h:Zz T (.call fv vs ξ.lev) st2 k st'):Zz T (.ex (.Call f args [] p) ξ) st k st' :=
 fun c W=>ZdO W.W hf hs hfun (h1 c W.W) (h2 c W.W) (h c W)
theorem Z9g (h1:Run T (.tst e ξ) st (.b d) st1)(h2:Zz T (.sts (if d then b1 else b2) ξ) st1 k st'):Zz T (.st (.If e b1 b2 p) ξ) st k st':=fun c W=>ZfJ (h1 c W.W) (h2 c W)
theorem Jk (h1:Zz T (.st t ξ) st k st1):Zz T (.sts (t::l) ξ) st k st1:=fun c W=>Zd0 (h1 c W)
theorem Z3Y (h1:Run T (.st t ξ) st .nx st1)(h:Zz T (.sts l ξ) st1 k st'):Zz T (.sts (t::l) ξ) st k st':=fun c W=>Zez (h1 c W.W) (h c W)
theorem Z9X (h:Zz T (.whl e b1 ξ) st k st'):Zz T (.st (.While e b1 [] p) ξ) st k st':=fun c W=>Zch W.W (h c W)
theorem Zbs (h1:Run T (.tst e ξ) st (.b true) st1)(h2:Zz T (.sts b1 ξ) st1 k st'):Zz T (.whl e b1 ξ) st k st':=fun c W=>Zdg W.X W.W (h1 c W.W) (h2 c W)
theorem Ze5 (h1:Run T (.tst e ξ) st (.b true) st1)(h2:Run T (.sts b1 ξ) st1 .nx st2)(h:Zz T (.whl e b1 ξ) st2 k st'):Zz T (.whl e b1 ξ) st k st':=fun c W=>ZeS W.W (h1 c W.W) (h2 c W.W) (h c W)
theorem Zds (hs:ZI e2=false)(h1:Run T (.ex e2 ξ) st (.v a) st1)(h2:∀ ro,ZT T ro st1 a (fun i st=>some (.v (.ref i),st))=some (.v (.ref i),st2))(h:Zz T (.forl e1 i b1 ξ) st2 k st'):Zz T (.st (.For e1 e2 b1 [] p) ξ) st k st' :=
 fun c W=>ZeA W.W hs (h1 c W.W) (h2 c.ro) (h c W)
theorem Za6 (hx:∀ ro,Zy T ro st it=some (some v,st1))(hl:YF e it v st1=some st2)(ha:Run T (.asg e v ξ) st2 .u st3)(hb:Zz T (.sts b1 ξ) st3 k st'):Zz T (.forl e it b1 ξ) st k st' :=
 fun c W=>Zc4 W.X W.W (hx c.ro) hl (ha c W.W) (hb c W)
theorem Z9w (hx:∀ ro,Zy T ro st it=some (some v,st1))(hl:YF e2 it v st1=some st2)(ha:Run T (.asg e2 v ξ) st2 .u st3)(hi:Run T (.ifs ifs ξ) st3 (.b true) st4)(he:Zz T (.ex e1 ξ) st4 k st'):Zz T (.comp e1 e2 ifs it acc ξ) st k st' :=
 fun c W=>Zc2 W.X W.W (hx c.ro) hl (ha c W.W) (hi c W.W) (he c W)
theorem Z5p {elt t iter:Expr}(hh:JJ ξ y p1 p2 sc.names=true)(hf:(Zi sc.kind&&Zi ξ.sc.kind)=true)(hs:ZI iter=false)(hc:Yc ξ sc.names=some cs)(ha:Ja sc.names=true)
  (h1:Run T (.ex iter ξ) st (.v a) st1) (h2:∀ ro,ZT T ro st1 a (fun i st=>some (.v (.ref i),st))=some (.v (.ref it),st2)) (hi:QB (st2.get it)=true)
  (h3:Zz T (.comp elt t ifs it st2.n ⟨{ sc with names:=YG ξ sc.names },st2.n+1,cs,ξ.code,ξ.qual,ξ.lev⟩) ((st2.push (.list [])).push (.frame [])) k st3) (hm:st3.get (st2.n+1)=some (.frame m)) :
  Zz T (.st (.Assign [.Name y p1] (.ListComp elt [⟨t,iter,ifs,0⟩] sc p2) p) ξ) st k (st3.del (st2.n+1)):=fun c W=>Z7d W.W hh hf hs hc ha (h1 c W.W) (h2 c.ro) hi (h3 c W) hm
theorem Z8X (hr:T.fn j=some r)(hb:Yw r.ps r.dfl args=some bs)(h1:ZO r bs lev st=some (.u,st1))(h2:Zz T (.sts r.body (Zv r st.n lev)) st1 k st'):Zz T (.call (.old j) args (lev+1)) st k st' :=
 fun c W=>Zg7 W.X W.W hr hb h1 fun L=>h2 _ (W.withG L)
theorem ZeX (h:Zz T (.call f args lev) st k st')(q:lev≤lev'):Zz T (.call f args lev') st k st':=fun c W A ρ s fv vs rm R hf ha=>h c W A ρ s fv vs (rm.low q) R hf ha
def JU (st0:St)(ids:List (Str×MV))(last n k:Nat):Prop:=∃ w,Nd st0 last (some w)∧((k=77∧Z2 w ids=none)∨(k=101∧n=8∧∃ e',Z2 w ids=some (.ref e')))
theorem Z6v {st0:St}{L lev e0 I F k:Nat}{ids:List (Str×MV)}(hLF:L≠F)(nL:st0.n≤L)(nF:st0.n≤F)(hI:Has st0 I (.dict ids)):∀ (rest pre:List Nat)(e:Nat)(o:Option MV)(st:St),Le [] st0 st→Yj st0 ids e rest→JU st0 ids ((e::rest).getLast (by simp)) (pre.length+1+rest.length) k→pre.length+1+rest.length≤8→Has st L (.frame (liF e0 I F o))→Has st F (.list ((pre++[e]).map .ref)) →
  ∃ (st':St),Zz (Z1 nt orc) (.whl liT liB (Ji L (lev+1))) st k st'∧Le [] st0 st'
 | [],pre,e,o,st,le,hp,hB,hz,hL,hF=>by
  obtain ⟨w,hN,hB⟩:=hB;have hN:Nd st0 e (some w):=hN;obtain ⟨st1,h1,le1⟩:=Z4h (nt:=nt) (orc:=orc) (lev:=lev) hL hF (hN.le le);have le01:=le.trans le1;obtain ⟨st2,h2,le2,hL2⟩:=Z6y (nt:=nt) (orc:=orc) (lev:=lev) (hL.le0 le1) (hF.le0 le1) (hI.le0 le01) (hN.le le01);have le02:Le [] st0 st2:=le01.then le2 (by simp;exact nL);have t1:=Z90 (nt:=nt) (orc:=orc) (lev:=lev+1) hL2
  refine ⟨st2,Zbs h1 (Z3Y h2 ?_),le02⟩;rcases hB with ⟨rfl,hw⟩ | ⟨rfl,hn,e',hw⟩
  ·rw [hw] at t1;exact Jk (Z9g t1 (Jk (Z1m (lev:=lev) rfl rfl (Zf ∅ ∅ ∅ ∅) (Z9 (Z4 rfl)))))
  ·rw [hw] at t1;have hF2:=(hF.le0 le1).le le2 (by simp;exact Ne.symm hLF);have t2:=Z9e (nt:=nt) (orc:=orc) (lev:=lev+1) hL2 hF2 (by simp at hn ⊢; omega);rw [show decide ((8:Int)≤(((pre++[e]).map MV.ref).length:Int))=true by rw [decide_eq_true_iff]; simp at hn ⊢; omega] at t2;exact Z3Y (Y8 t1 Ye) (Jk (Z9g t2 (Jk (Z5J (lev:=lev) rfl rfl (Zf ∅ ∅ ∅ ∅) (Z9 (Z4 rfl))))))
 | e'::rest,pre,e,o,st,le,zq6,hB,hz,hL,hF=>by
  obtain ⟨⟨w,hN,hw⟩,hp⟩:=zq6;obtain ⟨st1,h1,le1⟩:=Z4h (nt:=nt) (orc:=orc) (lev:=lev) hL hF (hN.le le);have le01:=le.trans le1;simp only [length_cons] at hz hB;obtain ⟨st2,h2,le2,hL2,hF2⟩:=Z87 (nt:=nt) (orc:=orc) (lev:=lev) hLF (hL.le0 le1) (hF.le0 le1) (hI.le0 le01) (hN.le le01) hw (by omega);obtain ⟨st',h',le'⟩:=Z6v (k:=k) hLF nL nF hI rest (pre++[e]) e' _ st2 (le01.then le2 (by simp;exact ⟨nL,nF⟩)) hp (by rw [List.getLast_cons (by simp)] at hB;rw [show (pre++[e]).length+1+rest.length=pre.length+1+(rest.length+1) by simp;omega]; exact hB) (by first | omega | (simp;omega)) hL2 hF2
  exact ⟨st',Ze5 h1 h2 h',le'⟩
theorem Zad:∃ st1,ZO liR [u,v] lev st=some (.u,st1)∧st1.n=st.n+1∧Le [] st st1∧Has st1 st.n (.frame [("element",u),("ids",v)]):=by
 let s0:=st.push (.frame [])
 have e:ZO liR [u,v] lev st=Zx (Ji st.n lev) "element" u s0 fun st'=>Zx (Ji st.n lev) "ids" v st' fun st=>some (.u,st):=rfl;have hL:Has s0 st.n (.frame []):=Has.new
 let s1:=s0.put st.n (.frame [("element",u)])
 have hL1:Has s1 st.n (.frame [("element",u)]):=Has.put_same hL.1;refine ⟨s1.put st.n (.frame [("element",u),("ids",v)]),?_,rfl,?_,Has.put_same hL1.1⟩
 ·rw [e,J5 (ξ:=Ji st.n lev) hL ∅ ∅ (by kernel_rfl:Zh "element" u []=[(ofString "element",u)])];exact J5 (ξ:=Ji st.n lev) hL1 ∅ ∅ ∅
 ·have q:Le [st.n] s0 (s1.put st.n (.frame [("element",u),("ids",v)])):=(Le.put (by simp)).trans (Le.put (by simp));have q0:Le [] st s0:=Le.push;exact q0.then q (by simp)
theorem Z38 {e I lev k:Nat}(hI:Has st I (.dict ids))(hp:Yj st ids e rest)(hB:JU st ids ((e::rest).getLast (by simp)) (1+rest.length) k)(hz:1+rest.length≤8) :
  ∃ (st':St),Zz (Z1 nt orc) (.call (.old 435) [.ref e,.ref I] (lev+2)) st k st'∧Le [] st st':=by
 obtain ⟨st0,en,n0,le0,hL0⟩:=Zad (st:=st) (lev:=lev+1) (u:=.ref e) (v:=.ref I)
 let L:=st.n
 let st1:=st0.push (.list [.ref e])
 let st2:=st1.put L (.frame (liF e I (L+1) none))
 have hL1:Has st1 L (.frame [("element",.ref e),("ids",.ref I)]):=hL0.push;have hF:Has st2 (L+1) (.list (([]++[e]).map .ref)):=by
  have:Has st1 (st.n+1) (.list [.ref e]):=by rw [← n0]; exact Has.new
  exact this.put (show st.n+1≠st.n by omega)
 have hL:Has st2 L (.frame (liF e I (L+1) none)):=Has.put_same hL1.1;have le2:Le [] st st2:=(le0.trans Le.push).then (M':=[L]) (Le.put (by simp)) (by simp [L])
 (refine xEA (Z6v (nt:=nt) (orc:=orc) (lev:=lev) (L:=L) (F:=L+1) (e0:=e) (I:=I) (k:=k) (show st.n≠st.n+1 by omega) (W04 _) (W03 _) hI rest [] e none st2 le2 hp (by simpa using hB) (by simpa using hz) hL hF) ?_;intro st' h le')
 refine ⟨st',Z8X (r:=liR) rfl rfl en (Z3Y (st1:=st2) (Y3 (a:=.ref st0.n) rfl (YW rfl (Z9 (Za (v:=.ref e) hL0 ∅ ∅ ∅ ∅)) (by show 1≤1000000;decide)) ?_) (Jk (Z9X h))),le'⟩;rw [n0];exact ZH (ξ:=Ji st.n (lev+1)) hL1 ∅ ∅ ∅
end
section
variable {T:Tab}{nt:List Stmt}{orc:Orc}{st st' st1 st2:St}{ξ:Z3}
def Tb (st:St)(jt P:Nat)(ps:Array Value)(q0 q:Str):Prop:=∃ es,Has st jt (.tab P ps q0 es)∧∀ l k j,ZS l k es=some j→Has st j (.code q)
theorem Tb.le (h:Tb st jt P ps q0 q)(k:Le M st st1)(hm:∀ m∈M,∃ o,Has st m o∧∀ q,o ≠ .code q)(hj:jt∉M):Tb st1 jt P ps q0 q:=by
 obtain ⟨es,h1,h2⟩:=h;refine ⟨es,h1.le k hj,fun l kk j hl=>(h2 l kk j hl).le k fun q=>?_⟩;obtain ⟨o,h3,h4⟩:=hm _ q;exact (h2 l kk j hl).ne h3 (fun z=>h4 _ z.symm) rfl
theorem Tb.le0 (h:Tb st jt P ps q0 q)(k:Le [] st st1):Tb st1 jt P ps q0 q:=h.le k (by simp) (by simp)
theorem Le.gap:Le M st (st.gap k):=⟨W07 _ _,fun u0 u0 u0=>rfl⟩
theorem Z1h (hC:C=101∨C=77)(hO:∀ c,QU c (Z1 nt orc)→Xo c P cc)(hcc:ξ.code = .ref cc)(hlev:ξ.lev=lev+2)
  (hn:∀ ro,Yb (Z1 nt orc) ro ξ fn st=some (.old 601)) (hd:decide (fn=dbg)=false) (hTb:Tb st jt P ps q0 (ZP ξ)) (hc:Yc ξ sc.names=some cs)
  (hsc:(sc.names.all fun x=>x.2 != .cell)=true) (hk:sc.kind = .function) (hco:sc.isCoroutine=false) (hgen:sc.isGenerator=false)
  (hb:∀ s1:St,Le [jt] st s1→∃ s2,Le [] s1 s2∧∀ cv,Zz (Z1 nt orc) (.ex e ⟨sc,s1.n+2,cs,cv,ZU (ZP ξ),lev⟩) ((s1.gap 2).push (.frame [])) C s2) :
  ∃ st',Zd (Z1 nt orc) (.ex (.Call (.Name fn p1) [.Lambda Jd e sc lp] [] p2) ξ) st (.v (.str (if C=101 then "limit" else "sheet"))) st'∧Le [jt] st st'∧Tb st' jt P ps q0 (ZP ξ):=by
 obtain ⟨es,htab,hes⟩:=hTb;have go:∀ s1:St,((ZS lp.line lp.col es=none∧s1=ZhD st jt P ps q0 es lp (ZP ξ))∨∃ j,ZS lp.line lp.col es=some j∧st.get j=some (.code (ZP ξ))∧s1=st)→∀ s2,(∀ cv,Zz (Z1 nt orc) (.ex e ⟨sc,s1.n+2,cs,cv,ZU (ZP ξ),lev⟩) ((s1.gap 2).push (.frame [])) C s2) →
   Zd (Z1 nt orc) (.ex (.Call (.Name fn p1) [.Lambda Jd e sc lp] [] p2) ξ) st (.v (.str (if C=101 then "limit" else "sheet"))) s2:=by
  intro s1 h1 s2 h2 c W;rcases hC with rfl | rfl
  ·exact Z63 (b1:=true) W.X W.W rfl ∅ ∅ W.e1 nofun (hO c W) hcc hlev (hn c.ro) hd htab.2 hc h1 hsc hk hco hgen fun L L' cv=>h2 cv _ ((W.withG L).withG L')
  ·exact Z63 (b1:=false) W.X W.W rfl ∅ ∅ W.e2 (fun u0=>W.e3) (hO c W) hcc hlev (hn c.ro) hd htab.2 hc h1 hsc hk hco hgen fun L L' cv=>h2 cv _ ((W.withG L).withG L')
 cases hl:ZS lp.line lp.col es with
 | none =>
  let s1:=ZhD st jt P ps q0 es lp (ZP ξ)
  have hjt:=htab.1;have le1:Le [jt] st s1:=Le.push.trans (Le.put (by simp));obtain ⟨s2,le2,h2⟩:=hb s1 le1;refine ⟨s2,go s1 (.inl ⟨hl,rfl⟩) s2 h2,le1.trans le2.of0,(lp.line,lp.col,st.n)::es,?_,fun l k j h=>?_⟩
  ·have:Has s1 jt (.tab P ps q0 ((lp.line,lp.col,st.n)::es)):=Has.put_same (W08 hjt)
   exact this.le0 le2
  ·unfold ZS at h
   split at h
   ·cases h
    have:Has s1 st.n (.code (ZP ξ)):=Has.new.put (W0a hjt)
    exact this.le0 le2
   ·have:=(hes l k j h)
    exact (this.le le1 (by simp;exact this.ne htab nofun)).le0 le2
 | some j =>
  have hj:=hes _ _ _ hl;obtain ⟨s2,le2,h2⟩:=hb st Le.refl;exact ⟨s2,go st (.inr ⟨j,hl,hj.2,rfl⟩) s2 h2,le2.of0,es,htab.le0 le2,fun l k j h=>(hes l k j h).le0 le2⟩
end
noncomputable def Zmr:Stmt→Expr
 | .Assign _ (.IfExp t _ _ _) _=>t
 | _=>.Name "" ⟨0,0,0,0⟩
def if5 (s:Stmt):Expr:=match ifT s with | .Compare _ _ [.IfExp t _ _ _] _=>t | e=>e
def Zmq (s:Stmt):Expr:=match ifT s with | .Compare l _ _ _=>l | e=>e
def riQ:Str:=ZP (Zk 0 0)
noncomputable def nsB (L j N:Nat):List Nat:=(List.range N).map fun i=>L+10+31*i+j
theorem Z9G:J4 (L+10) j N=(nsB L j N).map .ref:=by
 unfold J4 nsB;rw [map_map]; rfl
theorem Z4i:(nsB L j N).length=N:=by unfold nsB;rw [length_map,length_range]
theorem Z8Z (h:k<N):(nsB L j N)[k]?=some (L+10+31*k+j):=by
 unfold nsB;rw [getElem?_map,List.getElem?_range h]; rfl
theorem Z6L:nsB L j (N+1)=(L+10+31*0+j)::(List.range N).map fun i=>L+10+31*(0+1+i)+j:=by
 unfold nsB;rw [range_succ_eq_map,map_cons,map_map];exact congrArg _ (W0f fun i u0=>by show L+10+31*(i+1)+j=_;rw [add_comm i 1,zero_add])
structure Cx (st:St)(s L jt:Nat)(ps:Array Value)(q0:Str)(N:Nat)(D:List ZK)(a b:Int)(F:List (Str×MV)):Prop where
 src:Has st s (.src a b [])
 fr:Has st L (.frame F)
 cc:Has st (L+1) (.cell (some (.ref (L+5))))
 ci:Has st (L+2) (.cell (some (.ref (L+11+31*N))))
 ch:Has st (L+5) (.list ((nsB L 4 N).map .ref))
 wo:Has st (L+6) (.list ((nsB L 0 N).map .ref))
 sp:Has st (L+7) (.list ((nsB L 30 N).map .ref))
 ids:Has st (L+11+31*N) (.dict (Zt 0 (nsB L 4 N)))
 el:Els st (L+10) D
 tb:Tb st jt 603 ps q0 riQ
 hsL:s<L
 hjL:jt<L
 hN:D.length=N
 many:JA N
 ok:∀ (i:Nat) (x:ZK),D[i]?=some x→EOk N i x
section
variable {T:Tab}{nt:List Stmt}{orc:Orc}{st st' st1 st2:St}{ξ:Z3}{s L jt:Nat}{ps:Array Value}{q0:Str}{N:Nat}{D:List ZK}{a b:Int}{F F':List (Str×MV)}
theorem Cx.le (x:Cx st s L jt ps q0 N D a b F)(k:Le [] st st1):Cx st1 s L jt ps q0 N D a b F :=
 ⟨x.src.le0 k,x.fr.le0 k,x.cc.le0 k,x.ci.le0 k,x.ch.le0 k,x.wo.le0 k,x.sp.le0 k,x.ids.le0 k,x.el.le (fun i y e=>(x.ok i y e).m) k nil_all,x.tb.le0 k,x.hsL,x.hjL,x.hN,x.many,x.ok⟩
theorem Cx.set (x:Cx st s L jt ps q0 N D a b F)(k:Le [L] st st1)(h:Has st1 L (.frame F')):Cx st1 s L jt ps q0 N D a b F' :=
 ⟨x.src.le1 k (W05 x.hsL),h,x.cc.le1 k (Yq rfl),x.ci.le1 k (Yq rfl),x.ch.le1 k (Yq rfl),x.wo.le1 k (Yq rfl),x.sp.le1 k (Yq rfl),x.ids.le1 k (W0a (W00 (show L<L+11 from Nat.lt_add_of_pos_right (by decide)) (W07 _ _))),
  x.el.le (fun i y e=>(x.ok i y e).m) k (cons_all (show L<L+10 from Nat.lt_add_of_pos_right (by decide)) nil_all),x.tb.le k (cons_all ⟨_,x.fr,fun u0=>nofun⟩ nil_all) (nm1 (W05 x.hjL)),x.hsL,x.hjL,x.hN,x.many,x.ok⟩
theorem Cx.put (x:Cx st s L jt ps q0 N D a b F):Cx (st.put L (.frame F')) s L jt ps q0 N D a b F':=x.set (Le.put W0d) (Has.put_same x.fr.1)
theorem QV (h:JA N):1≤N∧N≤9:=by rcases h with h | h | h | h | h | h<;>omega
theorem Cx.at (x:Cx st s L jt ps q0 N D a b F)(hk:k<N):∃ d,D[k]?=some d∧Elt st d (L+10+31*k)∧EOk N k d:=by
 have h:k<D.length:=by rw [x.hN]; exact hk
 have e:=getElem?_eq_getElem h;exact ⟨_,e,x.el k _ e,x.ok k _ e⟩
theorem ZeO (x:Cx st s L jt ps q0 N D a b F)(hk:k+1<N):Nd st (L+10+31*k+4) (some (eT (k+1))):=by
 obtain ⟨d,_,el,ok⟩:=x.at (k:=k) (Nat.lt_of_succ_lt hk);rcases ok.lk with ⟨_,wd,hlk⟩ | ⟨h',_⟩
 ·refine ⟨_,_,_,_,el.el,?_⟩;rw [hlk];exact Z3r _ _ _ _ (Z5R k (by have:=(QV x.many).2;omega))
 ·omega
theorem Zea (x:Cx st s L jt ps q0 N D a b F)(hk:k+1=N):Nd st (L+10+31*k+4) none:=by
 obtain ⟨d,_,el,ok⟩:=x.at (k:=k) (hk▸W02 k);rcases ok.lk with ⟨h',_⟩ | ⟨_,hlk⟩
 ·omega
 ·refine ⟨_,_,_,_,el.el,?_⟩;rw [hlk];exact Z8E _
def Zj7 (st:St)(ids:List (Str×MV))(n:Nat→Nat)(i:Nat):Prop:=∃ w,Nd st (n i) (some w)∧Z2 w ids=some (.ref (n (i+1)))
theorem Z1L:∀ (m i:Nat),(∀ j,i≤j→j<i+m→Zj7 st ids n j)→Yj st ids (n i) ((List.range m).map fun j=>n (i+1+j))
 | 0,_,_=>trivial
 | m+1,i,h=>by
  rw [range_succ_eq_map];simp only [map_cons,map_map];refine ⟨h i (W04 _) (by omega),?_⟩;have:=Z1L m (i+1) fun j h1 h2=>h j (by omega) (by omega);rw [show List.map ((fun j=>n (i+1+j)) ∘ Nat.succ) (List.range m)=List.map (fun j=>n (i+1+1+j)) (List.range m) from map_congr_left fun j u0=>by show n (i+1+(j+1))=_;rw [show i+1+(j+1)=i+1+1+j by omega]]
  exact this
theorem Z3p (n:Nat→Nat):∀ (m:Nat),((n 0)::(List.range m).map fun j=>n (0+1+j)).getLast (by simp)=n m
 | 0=>rfl
 | m+1=>by
  rw [List.getLast_cons (by simp)];simp only [List.range_succ,map_append,map_cons,List.map_nil];rw [List.getLast_append_of_ne_nil _ (by simp)];simp [add_comm]
theorem Z3N (hk:k<N):Z2 (eT k) (Zt 0 (nsB L 4 N))=some (.ref (L+10+31*k+4)):=by
 have:=Z3g (k:=0) (Z8Z (L:=L) (j:=4) hk)
 rwa [zero_add] at this
noncomputable def XG (s N L:Nat):List (Str×MV):=[("source",.ref s),("many",.int N),("words",.ref (L+6)),("stops",.ref (L+7))]
noncomputable def XH (s N L sm:Nat):List (Str×MV):=[("source",.ref s),("many",.int N),("words",.ref (L+6)),("stops",.ref (L+7)),("some",.ref sm)]
noncomputable def Zl6 (s N L sm f:Nat):List (Str×MV):=[("source",.ref s),("many",.int N),("words",.ref (L+6)),("stops",.ref (L+7)),("some",.ref sm),("frame",.ref f)]
noncomputable def ZkQ (s N L sm f d a:Nat):List (Str×MV):=[("source",.ref s),("many",.int N),("words",.ref (L+6)),("stops",.ref (L+7)),("some",.ref sm),("frame",.ref f),("down",.ref d),("across",.ref a)]
noncomputable def Zlr (s N L sm f d a:Nat)(du:Str):List (Str×MV):=[("source",.ref s),("many",.int N),("words",.ref (L+6)),("stops",.ref (L+7)),("some",.ref sm),("frame",.ref f),("down",.ref d),("across",.ref a),("due",.str du)]
theorem XI (x:Cx st s L jt ps q0 N D a b F)(pp:Pos):Run (Z1 nt orc) (.ex (.Name "chain" pp) (Zk L 18)) st (.v (.ref (L+5))) st:=Ql (j:=L+1) ∅ ∅ ∅ x.cc ∅
theorem Zg3 (x:Cx st s L jt ps q0 N D a b F)(pp:Pos):Run (Z1 nt orc) (.ex (.Name "ids" pp) (Zk L 18)) st (.v (.ref (L+11+31*N))) st:=Ql (j:=L+2) ∅ ∅ ∅ x.ci ∅
theorem Zff (x:Cx st s L jt ps q0 N D a b (XG s N L))(h8:N≤8):∃ st',Run (Z1 nt orc) (.st (riS 3) (Zk L 18)) st .nx st'∧Le [] st st':=by
 obtain ⟨m,rfl⟩:∃ m,N=m+1:=⟨N - 1,by have:=(QV x.many).1;omega⟩;obtain ⟨d,_,el,_⟩:=x.at (k:=0) (succ_pos m);have hp:Yj st (Zt 0 (nsB L 4 (m+1))) (L+10+31*0+4) _:=Z1L (n:=fun i=>L+10+31*i+4) m 0 fun j u0 h=>⟨_,ZeO x (by omega),Z3N (by omega)⟩;obtain ⟨st1,Fr,r1,le1,hF,_⟩:=Z2i (nt:=nt) (orc:=orc) (lev:=16) (el.b 4 _ rfl).1 x.ids hp (by rw [Z3p fun i=>L+10+31*i+4]; exact Zea x rfl) (by rw [length_map,length_range]; omega)
 rw [← Z6L (j:=4)] at hF;have cmp:∀ ro,ZY (Z1 nt orc) ro st1 .NotEq (.ref Fr) (.ref (L+5))=some false:=fun ro=>(Z0B hF (x.ch.le0 le1) (Z1Z _)).1;exact ⟨st1,Y8 (d:=false) (ZJ (a:=.ref Fr) (b:=.ref (L+5)) rfl (Zp rfl rfl rfl (Zf (v:=.old 435) ∅ ∅ ∅ ∅) (Zb (Yz (a:=.ref (L+5)) (b:=.int 0) rfl (XI x _) (Z4 rfl) (Yt x.ch (JQ (i:=0) (by rw [getElem?_map,Z8Z (succ_pos m)]; rfl) (by decide)))) (Z9 (Zg3 x _))) r1) (XI (x.le le1) _) cmp) Ye,le1⟩
theorem Z8a {α β:Type}{R:α→β→Prop}:∀ {as:List α}{bs:List β},as.length=bs.length→(∀ (i:Nat) a b,as[i]?=some a→bs[i]?=some b→R a b)→ZC R as bs
 | [],[],_,_=>trivial
 | a::as,b::bs,h,k=>⟨k 0 a b rfl rfl,Z8a (Nat.succ.inj h) fun i x y hx hy=>k (i+1) x y hx hy⟩
 | [],_::_,h,_=>nomatch h
 | _::_,[],h,_=>nomatch h
theorem Cx.all {γ:Type}(x:Cx st s L jt ps q0 N D a b F){R:Nat→γ→Prop}{j:Nat}{f:ZK→γ}(h:∀ (i:Nat)(d:ZK),i<N→EOk N i d→Elt st d (L+10+31*i)→R (L+10+31*i+j) (f d)):ZC R (nsB L j N) (D.map f) :=
 Z8a (by rw [Z4i,length_map,x.hN]) fun i z g hz hg=>by
  rw [getElem?_map] at hg;refine xEA (map_eq_some_iff.mp hg) fun d hd e=>?_;subst e;have hi:i<N:=by rw [← x.hN]; exact (List.getElem?_eq_some_iff.mp hd).1
  rw [Z8Z hi] at hz;exact W0g hz▸h i d hi (x.ok i d hd) (x.el i d hd)
noncomputable def Zjk (D:List ZK):List (List (Nat×Nat×Nat)):=D.map (·.cs)
def Zi4 (L N:Nat)(D:List ZK):List Nat:=((nsB L 30 N).zip (Zjk D)).filterMap fun p=>if p.2.isEmpty then none else some p.1
theorem Zfd (x:Cx st s L jt ps q0 N D a b (XG s N L)):∃ (st':St)(sm:Nat),Run (Z1 nt orc) (.st (riS 4) (Zk L 18)) st .nx st'∧Le [L] st st'∧Cx st' s L jt ps q0 N D a b (XH s N L sm)∧Has st' sm (.list ((Zi4 L N D).map .ref)):=by
 have hz:(nsB L 30 N).length<1000:=by rw [Z4i]; exact Nat.lt_of_le_of_lt (QV x.many).2 (by decide)
 obtain ⟨st',r,le,hL,hs⟩:=Zaq (nt:=nt) (orc:=orc) (lev:=18) (F':=XH s N L (st.n+1)) x.fr ∅ ∅ x.sp hz (x.all (R:=fun z cs=>∃ xs:List MV,Has st z (.list xs)∧(xs=[]↔cs=[])) (f:=(·.cs)) fun i d u0 u0 el=>⟨_,el.r,by
  cases d.cs with
  | nil=>exact ⟨fun u0=>rfl,fun u0=>rfl⟩
  | cons=>exact ⟨nofun,nofun⟩⟩)
 exact ⟨st',st.n+1,r,le,x.set le hL,hs⟩
theorem Z3J:∀ {zs:List Nat}{D:List ZK},ZC (fun z d=>∃ y,Has st z (.list (Zjg (y+11) d.cs))∧QP st (y+11) d.cs) zs D →
  ((zs.zip (Zjk D)).filterMap (fun p=>if p.2.isEmpty then none else some p.1)=[]∧QR (Zjk D)=[])∨∃ z r,(zs.zip (Zjk D)).filterMap (fun p=>if p.2.isEmpty then none else some p.1)=z::r∧∃ xs,Has st z (.list xs)∧ZC (Zk8 st) (QR (Zjk D)) xs
 | [],[],_=>.inl ⟨rfl,rfl⟩
 | z::zs,⟨q,nm,lk,[]⟩::D,⟨_,h⟩=>Z3J (zs:=zs) (D:=D) h
 | z::zs,⟨q,nm,lk,c0::cs⟩::D,⟨⟨y,h1,h2⟩,_⟩=>.inr ⟨z,_,rfl,_,h1,h2.due⟩
 | [],_::_,h=>h.elim
 | _::_,[],h=>h.elim
theorem Cx.top (x:Cx st s L jt ps q0 N D a b F)(h:i<N):L+10+31*i+31≤st.n:=by
 have:=x.ids.1
 omega
theorem ZeH (hn:Yg nt)(x:Cx st s L jt ps q0 N D a b (XH s N L sm))(hsm:Has st sm (.list ((Zi4 L N D).map .ref))):∃ st',Run (Z1 nt orc) (.st (riS 5) (Zk L 18)) st .nx st'∧Le [] st st':=by
 obtain ⟨st1,r1,le1,lk1⟩:=Z1Q (nt:=nt) (orc:=orc) (st:=st) (lev:=18) (by decide);have x1:=x.le le1;obtain ⟨st2,R,us,r2,le2,hR,hrow,_⟩:=Z7H (nt:=nt) (orc:=orc) (lev:=17) hn (by decide) x1.ch (x1.all (R:=QQ st1 st.n) (f:=(·.cs)) fun i d hi ok el=>el.elch ok.cs ok.m (x.top hi)) lk1;have x2:=x1.le le2;have hsm2:=(hsm.le0 le1).le0 le2
 let st3:=st2.push (.list [])
 have x3:=x2.le (st1:=st3) Le.push;have le3:Le [] st st3:=(le1.trans le2).trans Le.push;have hrow3:ZC (J6 st3) (QR (Zjk D)) us:=hrow.imp fun u0 u0 z=>z.le Le.push;have smR:∀ {sx:St} (pp:Pos),Has sx L (.frame (XH s N L sm))→Run (Z1 nt orc) (.ex (.Name "some" pp) (Zk L 18)) sx (.v (.ref sm)) sx:=fun pp hx=>Za hx ∅ ∅ ∅ ∅;have tst:Run (Z1 nt orc) (.tst (if5 (riS 5)) (Zk L 18)) st2 (.b (!((Zi4 L N D).map MV.ref).isEmpty)) st3 :=
  ZJ (a:=.ref sm) (b:=.ref st2.n) rfl (smR _ x2.fr) (YW rfl YX (by show 0≤1000000;decide)) (fun ro=>Z0M hsm2.push Has.new)
 have lhs:Run (Z1 nt orc) (.ex (Zmq (riS 5)) (Zk L 18)) st (.v (.ref R)) st2 :=
  Zp rfl rfl rfl (Zf (v:=.old 447) ∅ ∅ ∅ ∅) (Zb (XI x _) (Z9 (Zp rfl rfl rfl (Zf (v:=.old 414) ∅ ∅ ∅ ∅) YX r1))) r2
 have hsome:=x3.all (R:=fun z d=>∃ y,Has st3 z (.list (Zjg (y+11) d.cs))∧QP st3 (y+11) d.cs) (j:=30) (f:=id) fun i d u0 u0 el=>⟨_,el.r,el.stps⟩;rw [List.map_id] at hsome;rcases Z3J hsome with ⟨h1,h2⟩ | ⟨z,r,h1,xs,hz,hdue⟩
 ·change Zi4 L N D=_ at h1;rw [h1] at tst;rw [h2] at hrow3;have hus:us=[]:=by cases us with
   | nil=>rfl
   | cons=>exact hrow3.elim
  subst hus
  let st4:=st3.push (.list [])
  refine ⟨st4,Y8 (d:=false) (ZJ (a:=.ref R) (b:=.ref st3.n) rfl lhs (Z2f (d:=false) tst (YW rfl YX (by show 0≤1000000;decide))) (fun ro=>(Z0B (xs:=[]) (ys:=[]) (hR.push.push) Has.new trivial).1)) Ye,le3.trans Le.push⟩
 ·change Zi4 L N D=_ at h1;rw [h1] at tst;refine ⟨st3,Y8 (d:=false) (ZJ (a:=.ref R) (b:=.ref z) rfl lhs (Z2f (d:=true) tst (Yz (a:=.ref sm) (b:=.int 0) rfl (smR _ x3.fr) (Z4 rfl) (Yt (hsm2.push (o':=.list [])) ?_))) (fun ro=>(Z0B hR.push hz ?_).1)) Ye,le3⟩
  ·rw [h1];exact JQ (i:=0) rfl (by decide)
  ·exact Z4D (R:=J6 st3) (R':=Zk8 st3) (fun c' u v h1 h2=>Zdt h1 h2) hrow3 hdue
end
section
variable {T:Tab}{nt:List Stmt}{orc:Orc}{st st' st1 st2:St}{ξ:Z3}{s L jt:Nat}{ps:Array Value}{q0:Str}{N:Nat}{D:List ZK}{a b:Int}{F F':List (Str×MV)}
theorem Z5Y:∀ {es:List Nat}{l:List (Option Str)},ZC (fun e o=>∃ nm a c es,El st e nm a c es∧Z2 x es=o.map .str) es l→Yp st x es l
 | [],[],_=>trivial
 | _::_,_::_,zq2=>by obtain ⟨h,h'⟩:=zq2;exact ⟨h,Z5Y h'⟩
 | [],_::_,h=>h.elim
 | _::_,[],h=>h.elim
theorem Z40:∀ {l:List (Option Str)}{v:Str},Zs l=some v→some v∈l
 | [],_,h=>by cases h
 | some u::r,v,h=>by cases h;simp
 | none::r,v,h=>W0e _ (Z40 h)
theorem Z4u (x:Cx st s L jt ps q0 N D a b F){f:Own→Option Str}(h:Zs (D.map fun d=>f d.q)=some v):∃ q,Zk3 q∧f q=some v:=by
 obtain ⟨d,hd,e⟩:=mem_map.mp (Z40 h);obtain ⟨i,hi⟩:=List.getElem?_of_mem hd;exact ⟨d.q,(x.ok i d hi).q,e⟩
theorem tells (x:Cx st s L jt ps q0 N D a b F){f:Own→Option Str}(h:∀ q lk,Z2 y (Zm (Zw q)++lkE lk)=(f q).map .str):Yp st y (nsB L 4 N) (D.map fun d=>f d.q):=by
 exact Z5Y (x.all (R:=fun e (o:Option Str)=>∃ nm a c es,El st e nm a c es∧Z2 y es=o.map .str) fun i d u0 u0 el=>⟨_,_,_,_,el.el,h _ _⟩)
theorem ZdC (x:Cx st s L jt ps q0 N D a b F){f:Own→Option Str}(h:∀ q,Z2 y (Zm (Zw q))=(f q).map .str):ZC (XC st y) (nsB L 0 N) (D.map fun d=>f d.q):=by
 exact x.all (j:=0) fun i d u0 u0 el=>⟨_,el.b 0 _ rfl,h _⟩
theorem Z2A (x:Cx st s L jt ps q0 N D a b F){f:Own→Option Str}(h:∀ q,Z2 y (Zm (Zw q))=(f q).map .str):∃ st',Run (Z1 nt orc) (.call (.old 580) [.ref (L+6),.str y,.str z] 18) st (.v (.str ((Zs (D.map fun d=>f d.q)).getD z))) st'∧Le [] st st' :=
 Z91 (lev:=17) x.wo (ZdC x h) (by rw [Z4i]; exact Nat.lt_of_le_of_lt (QV x.many).2 (by decide))
theorem Jl (hF:Has st L (.frame F))(hk:kindOf x (Zk L 18).sc.names=some .local)(hl:Z2 x F=some v)(hd:decide (x=dbg)=false)(pp:Pos):Run (Z1 nt orc) (.ex (.Name x pp) (Zk L 18)) st (.v v) st:=Za hF ∅ hk hl hd
theorem ZeJ (x:Cx st s L jt ps q0 N D a b (XH s N L sm)):∃ st',Run (Z1 nt orc) (.st (riS 6) (Zk L 18)) st .nx st'∧Le [] st st':=by
 have hk:(Zs (D.map fun d=>d.q.sp)).getD "pad"="pad"∨(Zs (D.map fun d=>d.q.sp)).getD "pad"="repeat"∨(Zs (D.map fun d=>d.q.sp)).getD "pad"="reflect":=by
  cases h:Zs (D.map fun d=>d.q.sp) with
  | none=>exact .inl rfl
  | some v =>
   obtain ⟨q,hq,e⟩:=Z4u x h;have:=hq.1 v e;unfold wSp at this;simp only [mem_cons,not_mem_nil,or_false] at this;rcases this with rfl | rfl | rfl
   ·exact .inr (.inl rfl)
   ·exact .inr (.inr rfl)
   ·exact .inl rfl
 obtain ⟨st1,r1,le1⟩:=Z7i (nt:=nt) (orc:=orc) (lev:=15) x.ch (tells x (f:=Own.sp) fun q lk=>(QT q lk).2.1) hk;have x1:=x.le le1;obtain ⟨st2,r2,le2⟩:=Z2A (nt:=nt) (orc:=orc) x1 (y:="spreadMethod") (z:="pad") (f:=Own.sp) fun q=>(QT q none).1.1;exact ⟨st2,Y8 (d:=false) (ZJ rfl (Zp rfl rfl rfl (Zf (v:=.old 461) ∅ ∅ ∅ ∅) (Z9 (XI x _)) r1) (Zp rfl rfl rfl (Zf (v:=.old 580) ∅ ∅ ∅ ∅) (Zb (Jl x1.fr ∅ ∅ ∅ _) (Zb (Z4 rfl) (Z9 (Z4 rfl)))) r2) (fun ro=>Z3O)) Ye,le1.trans le2⟩
theorem Zeu (x:Cx st s L jt ps q0 N D a b (XH s N L sm)):∃ st',Run (Z1 nt orc) (.st (riS 7) (Zk L 18)) st .nx st'∧Le [] st st':=by
 have hk:(Zs (D.map fun d=>d.q.un)).getD "objectBoundingBox"="objectBoundingBox"∨(Zs (D.map fun d=>d.q.un)).getD "objectBoundingBox"="userSpaceOnUse":=by
  cases h:Zs (D.map fun d=>d.q.un) with
  | none=>exact .inl rfl
  | some v =>
   obtain ⟨q,hq,e⟩:=Z4u x h;have:=hq.2.1 v e;unfold wUn at this;simp only [mem_cons,not_mem_nil,or_false] at this;rcases this with rfl | rfl
   ·exact .inr rfl
   ·exact .inl rfl
 obtain ⟨st1,r1,le1⟩:=Zbh (nt:=nt) (orc:=orc) (lev:=15) x.ch (tells x (f:=Own.un) fun q lk=>(QT q lk).2.2.1) hk;have x1:=x.le le1;obtain ⟨st2,r2,le2⟩:=Z2A (nt:=nt) (orc:=orc) x1 (y:="gradientUnits") (z:="objectBoundingBox") (f:=Own.un) fun q=>(QT q none).1.2.1;exact ⟨st2,Y8 (d:=false) (ZJ rfl (Zp rfl rfl rfl (Zf (v:=.old 469) ∅ ∅ ∅ ∅) (Z9 (XI x _)) r1) (Zao rfl (Zp rfl rfl rfl (Zf (v:=.old 580) ∅ ∅ ∅ ∅) (Zb (Jl x1.fr ∅ ∅ ∅ _) (Zb (Z4 rfl) (Z9 (Z4 rfl)))) r2) (Z4 rfl) (fun ro=>rfl)) (fun ro=>Z5T)) Ye,le1.trans le2⟩
theorem Zfg (x:Cx st s L jt ps q0 N D a b (XH s N L sm)):∃ (st':St)(f fw fh:Nat),Run (Z1 nt orc) (.st (riS 8) (Zk L 18)) st .nx st'∧Le [L] st st'∧Cx st' s L jt ps q0 N D a b (Zl6 s N L sm f)∧Xy st' f fw fh:=by
 obtain ⟨st1,r1,le1,hf⟩:=Zbz (nt:=nt) (orc:=orc) (st:=st) (L:=L) x.ci.1;have x1:=x.le le1;have x2:=x1.put (F':=Zl6 s N L sm (st.n+3));refine ⟨st1.put L (.frame (Zl6 s N L sm (st.n+3))),st.n+3,_,_,Y3 (a:=.ref (st.n+3)) rfl r1 (ZH x1.fr ∅ ∅ ∅),le1.of0.trans (Le.put (by simp)),x2,⟨?_,hf.w.put (hf.w.ne x1.fr nofun),hf.h.put (hf.h.ne x1.fr nofun)⟩⟩
 obtain ⟨d,h1,h2⟩:=hf.ex;exact ⟨d,h1.put (h1.ne x1.fr nofun),h2.put (h2.ne x1.fr nofun)⟩
theorem Zcp (x:Cx st s L jt ps q0 N D a b F):Qq ((Zs (D.map fun d=>d.q.x1)).getD "0%") 30:=by
 obtain ⟨l1,l2,l3,l4,l5,l6,l7⟩:=Zek
 cases h:Zs (D.map fun d=>d.q.x1) with
 | none=>exact l4
 | some v =>
  obtain ⟨q,hq,e⟩:=Z4u x h;have:=hq.2.2.1 v e;unfold wX1 at this;simp only [mem_cons,not_mem_nil,or_false] at this;rcases this with rfl | rfl | rfl
  ·exact l1
  ·exact l2
  ·exact l3
theorem Zci (x:Cx st s L jt ps q0 N D a b F):Qq ((Zs (D.map fun d=>d.q.cy)).getD "50%") 70:=by
 obtain ⟨l1,l2,l3,l4,l5,l6,l7⟩:=Zek
 cases h:Zs (D.map fun d=>d.q.cy) with
 | none=>exact l7
 | some v =>
  obtain ⟨q,hq,e⟩:=Z4u x h;have:=hq.2.2.2 v e;unfold wCy at this;simp only [mem_cons,not_mem_nil,or_false] at this;rcases this with rfl | rfl
  ·exact l5
  ·exact l6
theorem Zf7 (x:Cx st s L jt ps q0 N D a b (Zl6 s N L sm f))(hf:Xy st f fw fh)(h1:Q6 ((Zs (D.map fun d=>d.q.x1)).getD "0%") 30 lenTab=some (p1,q1))(h2:Q6 ((Zs (D.map fun d=>d.q.cy)).getD "50%") 70 lenTab=some (p2,q2)) :
  ∃ (st':St) (dn ac:Nat),Run (Z1 nt orc) (.st (riS 9) (Zk L 18)) st .nx st'∧Le [L] st st'∧Cx st' s L jt ps q0 N D a b (ZkQ s N L sm f dn ac)∧Has st' ac (.tup [.int p1,.int q1])∧Has st' dn (.tup [.int p2,.int q2]):=by
 obtain ⟨st1,A,r1,le1,hA⟩:=Z3W (nt:=nt) (orc:=orc) (lev:=12) (b:=false) x.ch (tells x (f:=Own.x1) fun q lk=>(QT q lk).2.2.2.1) hf ∅ h1;have x1:=x.le le1;obtain ⟨st2,B,r2,le2,hB⟩:=Z3W (nt:=nt) (orc:=orc) (lev:=12) (b:=true) x1.ch (tells x1 (f:=Own.cy) fun q lk=>(QT q lk).2.2.2.2) (hf.le le1) ∅ h2;have x2:=x1.le le2
 let st3:=st2.push (.tup [.ref A,.ref B])
 have x3:=x2.le (st1:=st3) Le.push
 let Fd:List (Str×MV):=[("source",.ref s),("many",.int N),("words",.ref (L+6)),("stops",.ref (L+7)),("some",.ref sm),("frame",.ref f),("down",.ref B)]
 have x4:=x3.put (F':=Fd);have x5:=x4.put (F':=ZkQ s N L sm f B A);have hA5:Has st3 A (.tup [.int p1,.int q1]):=(hA.le0 le2).push;have hB5:Has st3 B (.tup [.int p2,.int q2]):=hB.push;have hA6:Has (st3.put L (.frame Fd)) A (.tup [.int p1,.int q1]):=hA5.put (hA5.ne x3.fr nofun);have hB6:Has (st3.put L (.frame Fd)) B (.tup [.int p2,.int q2]):=hB5.put (hB5.ne x3.fr nofun);refine ⟨_,B,A,ZcF (l:=["across","down"]) (j:=st2.n) (xs:=[.ref A,.ref B]) (st1:=st3) ∅ (QL rfl (Zb (Zp rfl rfl rfl (Zf (v:=.old 476) ∅ ∅ ∅ ∅) (Zb (XI x _) (Zb (Z4 rfl) (Zb (Z4 rfl) (Z9 (Jl x.fr ∅ ∅ ∅ _))))) r1) (Z9 (Zp rfl rfl rfl (Zf (v:=.old 476) ∅ ∅ ∅ ∅) (Zb (XI x1 _) (Zb (Z4 rfl) (Zb (Z4 rfl) (Z9 (Jl x1.fr ∅ ∅ ∅ _))))) r2))) (by show 2≤1000000;decide)) Has.new rfl ?_,?_,x5,hA6.put (hA6.ne x4.fr nofun),hB6.put (hB6.ne x4.fr nofun)⟩
 ·show Zx (Zk L 18) "down" (.ref B) st3 (fun st=>Zx (Zk L 18) "across" (.ref A) st fun st=>some (.nx,st))=_
  rw [J5 (ξ:=Zk L 18) x3.fr ∅ ∅ (by kernel_rfl:Zh "down" (.ref B) (Zl6 s N L sm f)=Fd)];exact J5 (ξ:=Zk L 18) x4.fr ∅ ∅ ∅
 ·exact (((le1.trans le2).trans Le.push).of0.trans (Le.put (by simp))).trans (Le.put (by simp))
theorem Zd6 (x:Cx st s L jt ps q0 N D a b (ZkQ s N L sm f dn ac))(hA:Has st ac (.tup [.int p1,.int q1]))(hl:∃ u v,JS nt ((Zs (D.map fun d=>d.q.x1)).getD "0%") 30 u v∧JT nt p1 q1 u v):∃ st',Run (Z1 nt orc) (.st (riS 10) (Zk L 18)) st .nx st'∧Le [] st st':=by
 obtain ⟨u,v,hl1,hl2⟩:=hl;obtain ⟨st1,r1,le1⟩:=Z2A (nt:=nt) (orc:=orc) x (y:="x1") (z:="0%") (f:=Own.x1) fun q=>(QT q none).1.2.2.1;obtain ⟨st2,r2,le2,hT⟩:=ZaC (orc:=orc) (st:=st1) (lev:=16) hl1;have hA2:=(hA.le0 le1).le0 le2;obtain ⟨st3,r3,le3⟩:=ZaQ (orc:=orc) (lev:=16) hl2 hA2 hT (by have:=(hA.le0 le1).1;omega);refine ⟨st3,Y8 (d:=false) (ZaH (d:=true) (Zaz rfl (Zp rfl rfl rfl (Zf (v:=.old 594) ∅ ∅ ∅ ∅) (Zb (Jl x.fr ∅ ∅ ∅ _) (Z9 (Zp rfl rfl rfl (Zf (v:=.old 587) ∅ ∅ ∅ ∅) (Zb (Zp rfl rfl rfl (Zf (v:=.old 580) ∅ ∅ ∅ ∅) (Zb (Jl x.fr ∅ ∅ ∅ _) (Zb (Z4 rfl) (Z9 (Z4 rfl)))) r1) (Z9 (Z4 rfl))) r2))) r3))) Ye,(le1.trans le2).trans le3⟩
theorem Zdi (x:Cx st s L jt ps q0 N D a b (ZkQ s N L sm f dn ac))(hA:Has st dn (.tup [.int p1,.int q1]))(hl:∃ u v,JS nt ((Zs (D.map fun d=>d.q.cy)).getD "50%") 70 u v∧JT nt p1 q1 u v):∃ st',Run (Z1 nt orc) (.st (riS 11) (Zk L 18)) st .nx st'∧Le [] st st':=by
 obtain ⟨u,v,hl1,hl2⟩:=hl;obtain ⟨st1,r1,le1⟩:=Z2A (nt:=nt) (orc:=orc) x (y:="cy") (z:="50%") (f:=Own.cy) fun q=>(QT q none).1.2.2.2;obtain ⟨st2,r2,le2,hT⟩:=ZaC (orc:=orc) (st:=st1) (lev:=16) hl1;have hA2:=(hA.le0 le1).le0 le2;obtain ⟨st3,r3,le3⟩:=ZaQ (orc:=orc) (lev:=16) hl2 hA2 hT (by have:=(hA.le0 le1).1;omega);refine ⟨st3,Y8 (d:=false) (ZaH (d:=true) (Zaz rfl (Zp rfl rfl rfl (Zf (v:=.old 594) ∅ ∅ ∅ ∅) (Zb (Jl x.fr ∅ ∅ ∅ _) (Z9 (Zp rfl rfl rfl (Zf (v:=.old 587) ∅ ∅ ∅ ∅) (Zb (Zp rfl rfl rfl (Zf (v:=.old 580) ∅ ∅ ∅ ∅) (Zb (Jl x.fr ∅ ∅ ∅ _) (Zb (Z4 rfl) (Z9 (Z4 rfl)))) r1) (Z9 (Z4 rfl))) r2))) r3))) Ye,(le1.trans le2).trans le3⟩
end
section
variable {T:Tab}{nt:List Stmt}{orc:Orc}{st st' st1 st2:St}{ξ:Z3}{s L jt:Nat}{ps:Array Value}{q0:Str}{N:Nat}{D:List ZK}{a b:Int}{F F':List (Str×MV)}
theorem Z1s (hfn:Zi ξ.sc.kind=true)(hk:kindOf x ξ.sc.names=some .globalImplicit)(hd:decide (x=dbg)=false)(hg:T.glob x=some v):Yb T ro ξ x st=some v:=by
 unfold Yb;rw [hfn,hk];dsimp only;rw [hd];exact hg
structure Cz (st:St)(L N:Nat)(D:List ZK):Prop where
 cc:Has st (L+1) (.cell (some (.ref (L+5))))
 ci:Has st (L+2) (.cell (some (.ref (L+11+31*N))))
 ch:Has st (L+5) (.list ((nsB L 4 N).map .ref))
 ids:Has st (L+11+31*N) (.dict (Zt 0 (nsB L 4 N)))
 el:Els st (L+10) D
 m:∀ (i:Nat) (x:ZK),D[i]?=some x→x.cs.length≤2
theorem Cz.le (x:Cz st L N D)(k:Le M st st1)(hm:∀ m∈M,m<L+1):Cz st1 L N D:=by
 have ok:∀ {j},L+1+j∉M:=Z6P hm;exact ⟨x.cc.le k (ok (j:=0)),x.ci.le k (ok (j:=1)),x.ch.le k (ok (j:=4)),x.ids.le k (by rw [show L+11+31*N=L+1+(10+31*N) by omega]; exact ok),x.el.le x.m k (fun m q=>W00 (hm m q) (Nat.add_le_add_left (by decide) L)),x.m⟩
def Zlb (k:Nat):Expr:=match riS k with
 | .Return (some (.Compare (.Call _ (e::_) _ _) _ _ _)) _=>e
 | .If _ (.Return (some (.Compare (.Call _ (e::_) _ _) _ _ _)) _::_) _ _=>e
 | _=>.Name "" ⟨0,0,0,0⟩
def Zmj (k:Nat):Expr:=match Zlb k with | .Lambda _ e _ _=>e | e=>e
def Zme (k:Nat):Scope:=match Zlb k with | .Lambda _ _ sc _=>sc | _=>⟨.module,[],false,false,[]⟩
theorem Zal (hk:k=2∨k=14)(x:Cz st L N D)(he:nsB L 4 N=e::es')(hp:Yj st (Zt 0 (nsB L 4 N)) e rest)(hB:JU st (Zt 0 (nsB L 4 N)) ((e::rest).getLast (by simp)) (1+rest.length) C)(hz:1+rest.length≤8) :
  ∃ s2,Le [] st s2∧∀ cv,Zz (Z1 nt orc) (.ex (Zmj k) ⟨Zme k,st.n+2,[("ids",L+2),("chain",L+1)],cv,ZU riQ,lev+2⟩) ((st.gap 2).push (.frame [])) C s2:=by
 let s1:=(st.gap 2).push (.frame [])
 have le1:Le [] st s1:=Le.gap.trans Le.push;have x1:=x.le (M:=[]) le1 nil_all;have hB1:JU s1 (Zt 0 (nsB L 4 N)) ((e::rest).getLast (by simp)) (1+rest.length) C:=xEA hB fun w h1 h2=>⟨w,h1.le le1,h2⟩;obtain ⟨s2,r,le2⟩:=Z38 (nt:=nt) (orc:=orc) (lev:=lev) (k:=C) x1.ids (hp.le le1) hB1 hz;have hch:=x1.ch;rw [he] at hch;refine ⟨s2,le1.trans le2,fun cv=>?_⟩
 rcases hk with rfl | rfl
 ·exact XF rfl rfl rfl (Zf (v:=.old 435) ∅ ∅ ∅ ∅) (Zb (Yz (a:=.ref (L+5)) (b:=.int 0) rfl (Qm (j:=L+1) ∅ ∅ ∅ ∅ x1.cc ∅) (Z4 rfl) (Yt hch (JQ (i:=0) rfl (by decide)))) (Z9 (Qm (j:=L+2) ∅ ∅ ∅ ∅ x1.ci ∅))) r
 ·exact XF rfl rfl rfl (Zf (v:=.old 435) ∅ ∅ ∅ ∅) (Zb (Yz (a:=.ref (L+5)) (b:=.int 0) rfl (Qm (j:=L+1) ∅ ∅ ∅ ∅ x1.cc ∅) (Z4 rfl) (Yt hch (JQ (i:=0) rfl (by decide)))) (Z9 (Qm (j:=L+2) ∅ ∅ ∅ ∅ x1.ci ∅))) r
def Zmn (k:Nat):Expr:=match riS k with
 | .Return (some (.Compare l _ _ _)) _=>l
 | .If _ (.Return (some (.Compare l _ _ _)) _::_) _ _=>l
 | _=>.Name "" ⟨0,0,0,0⟩
theorem Z6M (hk:k=2∨k=14)(hC:C=101∨C=77)(x:Cz st L N D)(hj:jt<L)(hTb:Tb st jt 603 ps q0 riQ)(he:nsB L 4 N=e::es')(hz:1+rest.length≤8)
  (hp:∀ {s1:St},Cz s1 L N D→Yj s1 (Zt 0 (nsB L 4 N)) e rest∧JU s1 (Zt 0 (nsB L 4 N)) ((e::rest).getLast (by simp)) (1+rest.length) C) :
  ∃ st',Zd (Z1 nt orc) (.ex (Zmn k) (Zk L 18)) st (.v (.str (if C=101 then "limit" else "sheet"))) st'∧Le [jt] st st'∧Tb st' jt 603 ps q0 riQ:=by
 have walk:∀ s1:St,Le [jt] st s1→∃ s2,Le [] s1 s2∧∀ cv,Zz (Z1 nt orc) (.ex (Zmj k) ⟨Zme k,s1.n+2,[("ids",L+2),("chain",L+1)],cv,ZU riQ,16⟩) ((s1.gap 2).push (.frame [])) C s2:=fun s1 le1=>by
  have x1:=x.le le1 (cons_all (W08 hj) nil_all);obtain ⟨h1,h2⟩:=hp x1;exact Zal (lev:=14) hk x1 he h1 h2 hz
 rcases hk with rfl | rfl
 ·exact Z1h (lev:=16) (cs:=[("ids",L+2),("chain",L+1)]) hC (fun c h=>h.l603) rfl rfl (fun ro=>Z1s ∅ ∅ ∅ ∅) ∅ hTb ∅ ∅ ∅ ∅ ∅ walk
 ·exact Z1h (lev:=16) (cs:=[("ids",L+2),("chain",L+1)]) hC (fun c h=>h.l603) rfl rfl (fun ro=>Z1s ∅ ∅ ∅ ∅) ∅ hTb ∅ ∅ ∅ ∅ ∅ walk
end
section
variable {T:Tab}{nt:List Stmt}{orc:Orc}{st st' st1 st2:St}{ξ:Z3}{s L jt:Nat}{ps:Array Value}{q0:Str}{N:Nat}{D:List ZK}{a b:Int}{F F':List (Str×MV)}
noncomputable def bsT (L i:Nat):Nat:=L+10+31*i+4
theorem Z5L (hs:∀ j,j<m→Zj7 st (Zt 0 (nsB L 4 N)) n j)(he:∃ w,Nd st (n m) (some w)∧((C=77∧Z2 w (Zt 0 (nsB L 4 N))=none)∨(C=101∧1+m=8∧∃ e',Z2 w (Zt 0 (nsB L 4 N))=some (.ref e')))) :
  Yj st (Zt 0 (nsB L 4 N)) (n 0) ((List.range m).map fun j=>n (0+1+j))∧JU st (Zt 0 (nsB L 4 N)) ((n 0::(List.range m).map fun j=>n (0+1+j)).getLast (by simp)) (1+((List.range m).map fun j=>n (0+1+j)).length) C:=by
 refine ⟨Z1L m 0 fun j u0 h=>hs j (by omega),?_⟩;obtain ⟨w,h1,h2⟩:=he;refine ⟨w,by rw [Z3p]; exact h1,?_⟩;rw [length_map,length_range];exact h2
def Lks (N:Nat)(t:Option Str)(D:List ZK):Prop:=∀ k d,D[k]?=some d→(k+1<N→∃ wd,d.lk=some (wd,Jw k))∧(k+1=N→∀ u,t=some u→d.lk=some (true,u))
theorem Z9M (x:Cz st L N D)(hN:D.length=N)(h9:N≤9)(hl:Lks N t D)(hk:k<N):Nd st (bsT L k) (some (eT (k+1)))∧k+1<N∨(k+1=N∧∀ u w,t=some u→(u,w)∈lnkTab→Nd st (bsT L k) (some w)):=by
 obtain ⟨d,hd⟩:∃ d,D[k]?=some d:=⟨_,getElem?_eq_getElem (by omega)⟩;have el:=x.el k d hd;obtain ⟨h1,h2⟩:=hl k d hd;by_cases hk1:k+1<N
 ·obtain ⟨wd,hlk⟩:=h1 hk1;refine .inl ⟨⟨_,_,_,_,el.el,?_⟩,hk1⟩;rw [hlk];exact Z3r _ _ _ _ (Z5R k (by omega))
 ·refine .inr ⟨by omega,fun u w hu hw=>⟨_,_,_,_,el.el,?_⟩⟩;rw [h2 (by omega) u hu];exact Z3r _ _ _ _ hw
theorem Z84 (h1:1≤N):nsB L 4 N=bsT L 0::(nsB L 4 N).drop 1:=by
 obtain ⟨m,rfl⟩:∃ m,N=m+1:=⟨N - 1,by omega⟩;rw [Z6L]; rfl
theorem Z7V (x:Cz st L 9 D)(hN:D.length=9)(hl:Lks 9 none D):Yj st (Zt 0 (nsB L 4 9)) (bsT L 0) ((List.range 7).map fun j=>bsT L (0+1+j))∧JU st (Zt 0 (nsB L 4 9)) ((bsT L 0::(List.range 7).map fun j=>bsT L (0+1+j)).getLast (by simp)) (1+((List.range 7).map fun j=>bsT L (0+1+j)).length) 101:=by
 have nd:∀ k,k<8→Nd st (bsT L k) (some (eT (k+1))):=fun k hk=>by
  rcases Z9M x hN (by decide) hl (k:=k) (by omega) with ⟨h,_⟩ | ⟨h,_⟩
  ·exact h
  ·omega
 exact Z5L (n:=bsT L) (fun j hj=>⟨_,nd j (by omega),Z3N (by omega)⟩) ⟨_,nd 7 (by decide),.inr ⟨rfl,rfl,_,Z3N (k:=8) (by decide)⟩⟩
theorem Z88 (x:Cz st L N D)(hN:D.length=N)(h1:1≤N)(h8:N≤8)(hl:Lks N (some "#none") D):Yj st (Zt 0 (nsB L 4 N)) (bsT L 0) ((List.range (N - 1)).map fun j=>bsT L (0+1+j))∧JU st (Zt 0 (nsB L 4 N)) ((bsT L 0::(List.range (N - 1)).map fun j=>bsT L (0+1+j)).getLast (by simp)) (1+((List.range (N - 1)).map fun j=>bsT L (0+1+j)).length) 77:=by
 refine Z5L (n:=bsT L) (fun j hj=>?_) ?_
 ·rcases Z9M x hN (by omega) hl (k:=j) (by omega) with ⟨h,_⟩ | ⟨h,_⟩
  ·exact ⟨_,h,Z3N (by omega)⟩
  ·omega
 ·rcases Z9M x hN (by omega) hl (k:=N - 1) (by omega) with ⟨_,h⟩ | ⟨_,h⟩
  ·omega
  ·exact ⟨_,h _ _ rfl Z9p,.inl ⟨rfl,Z4S⟩⟩
theorem Z7o (x:Cz st L N D)(hN:D.length=N)(h1:1≤N)(h8:N≤8)(hl:Lks N (some "#e0") D):Yj st (Zt 0 (nsB L 4 N)) (bsT L 0) ((List.range 7).map fun j=>bsT L ((0+1+j) % N))∧JU st (Zt 0 (nsB L 4 N)) ((bsT L 0::(List.range 7).map fun j=>bsT L ((0+1+j) % N)).getLast (by simp)) (1+((List.range 7).map fun j=>bsT L ((0+1+j) % N)).length) 101:=by
 have step:∀ i,Zj7 st (Zt 0 (nsB L 4 N)) (fun i=>bsT L (i % N)) i:=fun i=>by
  have hi:i % N<N:=Nat.mod_lt _ h1;rcases Z9M x hN (by omega) hl hi with ⟨h,hk⟩ | ⟨hk,h⟩
  ·refine ⟨_,h,?_⟩;rw [Z3N hk];show some (MV.ref (bsT L (i % N+1)))=some (MV.ref (bsT L ((i+1) % N)));rw [← Nat.add_mod_eq_add_mod_right 1 (Nat.mod_mod i N),Nat.mod_eq_of_lt hk]
  ·refine ⟨_,h _ _ rfl ZcX,?_⟩;rw [Z3N h1];show some (MV.ref (bsT L 0))=some (MV.ref (bsT L ((i+1) % N)));rw [← Nat.add_mod_eq_add_mod_right 1 (Nat.mod_mod i N),hk,Nat.mod_self]
 have:=Z5L (C:=101) (m:=7) (n:=fun i=>bsT L (i % N)) (fun j u0=>step j) (by
  obtain ⟨w,h1,h2⟩:=step 7;exact ⟨w,h1,.inr ⟨rfl,rfl,_,h2⟩⟩)
 simp only [Nat.zero_mod] at this;exact this
theorem Z9H (q:Own)(t:Str):Z2 "href" (Zm (Zw q)++lkE (some (true,t)))=some (.str t):=by
 rcases q with ⟨_ | _,_ | _,_ | _,_ | _⟩<;>kernel_rfl
theorem ZcZ (x:Cx st s L jt ps q0 N D a b (ZkQ s N L sm f dn ac)) :
  ∃ (t:Str) (st':St) (a' b':Int) (D':List ZK),(t="#none"∨t="#e0")∧Run (Z1 nt orc) (.st (riS 12) (Zk L 18)) st .nx st'∧Has st' s (.src a' b' [])∧Has st' L (.frame (ZkQ s N L sm f dn ac))∧(∃ M,Le M st st'∧∀ m∈M,m=s∨L≤m)∧Tb st' jt 603 ps q0 riQ∧Cz st' L N D'∧D'.length=N∧Lks N (some t) D' ∧
   ∃ y a1,(∀ pp p1 p2 p3 kd pq,Run (Z1 nt orc) (.ex (.Attribute (.Subscript (.Name "chain" pp) (.UnaryOp .USub (.Constant (.int 1) kd p1) p2) p3) "attributes" pq) (Zk L 18)) st' (.v (.ref a1)) st')∧Has st' a1 (.dict y)∧Z2 "href" y=some (.str t):=by
 obtain ⟨m,rfl⟩:∃ m,N=m+1:=⟨N - 1,by have:=(QV x.many).1;omega⟩;obtain ⟨d,hd,el,ok⟩:=x.at (k:=m) (W02 m);have hD:D=D.take m++[d]:=by
  refine List.ext_getElem? fun i=>?_;by_cases q:i<m
  ·rw [List.getElem?_append_left (by rw [length_take,x.hN]; omega),List.getElem?_take_of_lt q]
  ·by_cases q':i=m
   ·subst q';have e:(D.take i).length=i:=by rw [length_take,x.hN]; omega
    rw [List.getElem?_append_right (by rw [e]; exact Nat.le_refl _),e,Nat.sub_self,hd]; rfl
   ·rw [List.getElem?_eq_none (by rw [x.hN]; omega),List.getElem?_eq_none (by rw [length_append,length_take,x.hN,List.length_singleton]; omega)]
 have hlkd:d.lk=none:=by
  rcases ok.lk with ⟨h,_⟩ | ⟨_,h⟩
  ·omega
  ·exact h
 let y:=L+10+31*m
 have ys:∀ {i},s≠y+i:=W05 (W00 x.hsL (by omega));have yL:∀ {j i},ble (j+1) 10=true→L+j≠y+i:=fun q=>W05 (W00 (add_lt_add_left (W06 q) L) (by omega));have Ls:∀ {j},L+j≠s:=W0a (W00 x.hsL (W07 _ _));have hs:=x.src;have hd2:=YV a b (t:=2) (by decide)
 let wl:List MV:=[.str "#none",.str "#e0"]
 let s1:=st.push (.list wl)
 let s2:=JR (s1.put s (.src a b [(2,dr a b 2)])) s st.n a b 2 []
 have hs1:Has s1 s (.src a b []):=hs.push;obtain ⟨t,ht,hv⟩:∃ (t:Str),(t="#none"∨t="#e0")∧wl[(dr a b 2).toNat]?=some (.str t):=by
  have:(dr a b 2).toNat=0∨(dr a b 2).toNat=1:=by omega
  rcases this with e | e<;>rw [e]
  ·exact ⟨_,.inl rfl,rfl⟩
  ·exact ⟨_,.inr rfl,rfl⟩
 have one:Run (Z1 nt orc) (.call (.old 563) [.ref s,.ref st.n] 18) s1 (.v (.str t)) s2 :=
  Z7N hs1 (l:=[(2,dr a b 2)]) ⟨by decide,by decide,rfl,trivial⟩ (Z5m (lev:=16) (Has.put_same hs1.1) (Has.new.put (W0a hs.1)) rfl (by decide) (by decide) hd2.1 hv)
 have le2:Le [s] st s2:=(Le.push.trans (Le.put W0d)).trans Z6x;have mv:∀ {i:Nat} {ob:MObj},Has st i ob→i≠s→Has s2 i ob:=fun h q=>h.le1 le2 q
 let es':=Zm (Zw d.q)++lkE (some (true,t))
 let s3:=s2.put (y+2) (.dict es')
 have le3:Le [y+2,s] st s3:=(le2.sub (cons_all (.tail _ W0d) nil_all)).trans (Le.put W0d);have mv3:∀ {i:Nat} {ob:MObj},Has st i ob→i≠s→i≠y+2→Has s3 i ob:=fun h q q'=>(mv h q).put q';have el2:Elt s2 d y:=el.le ok.m le2 fun j u0=>nm1 ys.symm;have A2:Has s2 (y+2) (.dict (Zm (Zw d.q))):=by
  have:=el2.b 2 _ rfl
  rwa [hlkd,show lkE none=[] from rfl,append_nil] at this
 have A3:Has s3 (y+2) (.dict es'):=Has.put_same A2.1;have el3:Elt s3 ⟨d.q,d.nm,some (true,t),d.cs⟩ y:=⟨el.b.mix le3 (fun j=>Z6P (cons_all (W00 x.hsL (by omega)) nil_all)) A3,(el2.r).put (ne_add rfl)⟩;have hlast:∀ {sx:St},Has sx (L+1) (.cell (some (.ref (L+5))))→Has sx (L+5) (.list ((nsB L 4 (m+1)).map .ref))→∀ pp p1 p2 p3 kd,Run (Z1 nt orc) (.ex (.Subscript (.Name "chain" pp) (.UnaryOp .USub (.Constant (.int 1) kd p1) p2) p3) (Zk L 18)) sx (.v (.ref (y+4))) sx :=
  fun h1 h2 pp p1 p2 p3 kd=>Yz (a:=.ref (L+5)) (b:=.int (-1)) rfl (Ql (j:=L+1) ∅ ∅ ∅ h1 ∅) (Zc8 (Z4 rfl)) (Yt h2 (by
   unfold nsB;rw [List.range_succ,map_append,map_append];exact Z5h))
 have cc2:=mv x.cc Ls;have ch2:=mv x.ch Ls;have ht2:(D.take m).length=m:=by rw [length_take,x.hN]; omega
 have take_at:∀ {i:Nat} {z:ZK},(D.take m)[i]?=some z→i<m∧D[i]?=some z:=fun {i z} e=>by
  have q:i<m:=by have:=(List.getElem?_eq_some_iff.mp e).1;omega
  rw [List.getElem?_take_of_lt q] at e;exact ⟨q,e⟩
 have elT:Els s3 (L+10) (D.take m):=fun i z e=>by
  obtain ⟨q,e⟩:=take_at e;exact (x.el i z e).le (x.ok i z e).m le3 fun j hj=>nmc (by show L+10+31*i+j≠L+10+31*m+2;omega) (nm1 (W0a (W00 x.hsL (by omega))))
 have cases_at:∀ {i:Nat} {z:ZK} {P:Prop},(D.take m++[(⟨d.q,d.nm,some (true,t),d.cs⟩:ZK)])[i]?=some z→(i<m→D[i]?=some z→P)→(i=m→z=⟨d.q,d.nm,some (true,t),d.cs⟩→P)→P:=fun {i z P} e h1 h2=>by
  by_cases q:i<(D.take m).length
  ·rw [List.getElem?_append_left q] at e;obtain ⟨q,e⟩:=take_at e;exact h1 q e
  ·have q2:=(List.getElem?_eq_some_iff.mp e).1;rw [length_append,List.length_singleton] at q2;have:i=(D.take m).length:=by omega
   subst this;rw [List.getElem?_concat_length] at e;exact h2 ht2 (W0g e).symm
 refine ⟨t,s3,_,_,D.take m++[⟨d.q,d.nm,some (true,t),d.cs⟩],ht,?_,(Z4z (st:=s1.put s (.src a b [(2,dr a b 2)])) hs1.1).put ys,mv3 x.fr (W0a x.hsL) (yL (j:=0) rfl),⟨_,le3,cons_all (.inr (by show L≤L+10+31*m+2;omega)) (cons_all (.inl rfl) nil_all)⟩,?_,
  ⟨mv3 x.cc Ls (yL rfl),mv3 x.ci Ls (yL rfl),mv3 x.ch Ls (yL rfl),mv3 x.ids (W0a (W00 x.hsL (by omega))) (by show L+11+31*(m+1)≠L+10+31*m+2;omega),elT.snoc (ht2.symm▸el3),fun i z e=>cases_at e (fun u0 e=>(x.ok i z e).m) fun u0 e=>e▸ok.m⟩,by rw [length_append,ht2]; rfl,
  fun k z e=>cases_at e (fun q e=>⟨fun h=>?_,fun h=>by omega⟩) fun q e=>⟨fun h=>by omega,fun u0 u hu=>by rw [e,Option.some.inj hu]⟩,es',y+2,fun pp p1 p2 p3 kd pq=>Z0N el3.el rfl (hlast (mv3 x.cc Ls (yL rfl)) (mv3 x.ch Ls (yL rfl)) _ _ _ _ _),A3,Z9H _ _⟩
 ·refine Y3 (a:=.str t) rfl (Zp rfl rfl rfl (Zf (v:=.old 563) ∅ ∅ ∅ ∅) (Zb (Jl x.fr ∅ ∅ ∅ _) (Z9 (YW rfl (Zb (Z4 rfl) (Z9 (Z4 rfl))) (by show 2≤1000000;decide)))) one) (Z6m (a:=.ref (y+2)) (b:=.str "href") (Z0N el2.el rfl (hlast cc2 ch2 _ _ _ _ _)) (Z4 rfl) ?_);rw [Z2n A2 (by rw [Z5V]; have:=Z85 d.q;omega),Z2t (Z3G d.q).1]
  rfl
 ·exact x.tb.le le3 (cons_all ⟨_,el.b 2 _ rfl,fun u0=>nofun⟩ (cons_all ⟨_,hs,fun u0=>nofun⟩ nil_all)) (nmc (W05 (W00 x.hjL (by omega))) (nm1 (xEA x.tb fun u0 h u0=>h.ne hs nofun)))
 ·rcases (x.ok k z e).lk with ⟨_,h2⟩ | ⟨h2,_⟩
  ·exact h2
  ·omega
end
section
variable {T:Tab}{nt:List Stmt}{orc:Orc}{st st' st1 st2:St}{ξ:Z3}{s L jt:Nat}{ps:Array Value}{q0:Str}{N:Nat}{D:List ZK}{a b:Int}{F F':List (Str×MV)}
theorem Z9A:∃ st1,ZO riR [u,v] lev st=some (.u,st1)∧st1.n=st.n+3∧Le [] st st1∧Has st1 st.n (.frame [("source",u),("many",v)])∧Has st1 (st.n+1) (.cell none)∧Has st1 (st.n+2) (.cell none):=by
 let s0:=((st.push (.frame [])).push (.cell none)).push (.cell none)
 have e:ZO riR [u,v] lev st=Zx (Zk st.n lev) "source" u s0 fun st'=>Zx (Zk st.n lev) "many" v st' fun st=>some (.u,st):=rfl;have hL:Has s0 st.n (.frame []):=Has.new.push.push
 let s1:=s0.put st.n (.frame [("source",u)])
 have hL1:Has s1 st.n (.frame [("source",u)]):=Has.put_same hL.1;have hC:Has s0 (st.n+1) (.cell none):=Has.new.push;have hI:Has s0 (st.n+2) (.cell none):=Has.new;refine ⟨s1.put st.n (.frame [("source",u),("many",v)]),?_,rfl,?_,Has.put_same hL1.1,(hC.put (by omega)).put (by omega),(hI.put (by omega)).put (by omega)⟩
 ·rw [e,J5 (ξ:=Zk st.n lev) hL ∅ ∅ (by kernel_rfl:Zh "source" u []=[(ofString "source",u)])];exact J5 (ξ:=Zk st.n lev) hL1 ∅ ∅ ∅
 ·have q:Le [st.n] s0 (s1.put st.n (.frame [("source",u),("many",v)])):=(Le.put (by simp)).trans (Le.put (by simp));have q0:Le [] st s0:=(Le.push.trans Le.push).trans Le.push;exact q0.then q (by simp)
theorem ZaU:riR.body=[riS 0,riS 1,riS 2,riS 3,riS 4,riS 5,riS 6,riS 7,riS 8,riS 9,riS 10,riS 11,riS 12,riS 13,riS 14]:=∅
theorem ZbA (hN:JA N)(hs:Has st s (.src a b []))(hTb:Tb st jt 603 ps q0 riQ) :
  ∃ (st0 st1 st2:St) (a' b':Int) (D:List ZK),ZO riR [.ref s,.int N] 18 st=some (.u,st0)∧Run (Z1 nt orc) (.st (riS 0) (Zk st.n 18)) st0 .nx st1∧Run (Z1 nt orc) (.st (riS 1) (Zk st.n 18)) st1 .nx st2 ∧
   Cx st2 s st.n jt ps q0 N D a' b' (XG s N st.n)∧Le [s] st st2:=by
 have hjt:jt<st.n:=xEA hTb fun u0 h u0=>h.1;have hjs:jt≠s:=xEA hTb fun u0 h u0=>h.ne hs nofun;obtain ⟨st0,e0,n0,le0,hL0,hC0,hI0⟩:=Z9A (st:=st) (lev:=18) (u:=.ref s) (v:=.int N);obtain ⟨st1,a',b',D,r1,hs1,le1,x⟩:=Z8Q (nt:=nt) (N:=N) (QV hN).2 (hs.le0 le0);have Ls:∀ {i},st.n+i≠s:=W0a (W00 hs.1 (W07 _ _))
 have hn1:=x.num;have ht1:=x.tup;have l1:=x.l1;have l2:=x.l2;have l3:=x.l3;have els:=x.els;rw [n0] at r1 hn1 ht1 l1 l2 l3 els;rw [Z9G (L:=st.n)] at l1 l2 l3;have hL1:Has st1 st.n _:=hL0.le1 le1 (Ls (i:=0));have hC1:=hC0.le1 le1 Ls;have hI1:=hI0.le1 le1 Ls
 let st2:=st1.put (st.n+1) (.cell (some (.ref (st.n+5))))
 let st3:=st2.put st.n (.frame [("source",.ref s),("many",.int N),("words",.ref (st.n+6))])
 let st4:=st3.put st.n (.frame (XG s N st.n))
 have hL2:Has st2 st.n _:=hL1.put (ne_add0 rfl);have hL3:Has st3 st.n (.frame [("source",.ref s),("many",.int N),("words",.ref (st.n+6))]):=Has.put_same hL2.1;have le4:Le [st.n+1,st.n] st1 st4:=((Le.put W0d).trans (Le.put (.tail _ W0d))).trans (Le.put (.tail _ W0d));have R0:Run (Z1 nt orc) (.st (riS 0) (Zk st.n 18)) st0 .nx st4 :=
  Y3 (a:=.ref (st.n+3+7+31*N)) rfl (Zp rfl rfl rfl (Zf (v:=.old 575) ∅ ∅ ∅ ∅) (Zb (Jl hL0 ∅ ∅ ∅ _) (Z9 (Jl hL0 ∅ ∅ ∅ _))) (Yo r1)) (Z9J rfl ht1 rfl (Z95 (st1:=st2) (Z19 (ξ:=Zk st.n 18) ∅ ∅ ∅ hC1) (Z95 (st1:=st3) (ZH (ξ:=Zk st.n 18) hL2 ∅ ∅ ∅) (Z95 (ZH (ξ:=Zk st.n 18) hL3 ∅ ∅ ∅) ZbK))))
 have mv:∀ {i:Nat} {ob:MObj},Has st1 (st.n+i) ob→beq i 1=false→beq i 0=false→Has st4 (st.n+i) ob:=fun h q q'=>h.le le4 (nmc (ne_add q) (nm1 (Yq q')));have hc4:=mv l1 rfl rfl;have hcc4:Has st4 (st.n+1) (.cell (some (.ref (st.n+5)))):=((Has.put_same hC1.1).put (Yq rfl)).put (Yq rfl);have n4:st4.n=st.n+11+31*N:=hn1;obtain ⟨st5,r5,le5,hids⟩:=Zc1 (nt:=nt) (orc:=orc) (L:=st.n) (by rw [Z4i]; exact hN) hcc4 hc4 (by omega) (by omega) fun e he=>by
  obtain ⟨i,hi,rfl⟩:=mem_map.mp (show e∈(List.range N).map _ from he);have:=mem_range.mp hi;omega
 rw [n4] at r5 hids;have hI5:=(mv hI1 rfl rfl).le0 le5
 let st6:=st5.put (st.n+2) (.cell (some (.ref (st.n+11+31*N))))
 have R1:Run (Z1 nt orc) (.st (riS 1) (Zk st.n 18)) st4 .nx st6:=Y3 (a:=.ref (st.n+11+31*N)) rfl r5 (Z19 (ξ:=Zk st.n 18) ∅ ∅ ∅ hI5);have up:∀ {i:Nat} {ob:MObj},Has st4 i ob→i≠st.n+2→Has st6 i ob:=fun h q=>(h.le0 le5).put q;have le46:Le [st.n+2] st4 st6:=le5.of0.trans (Le.put W0d);have le16:Le [st.n+1,st.n,st.n+2] st1 st6:=(le4.sub (cons_all W0d (cons_all (.tail _ W0d) nil_all))).trans (le46.sub (cons_all (.tail _ (.tail _ W0d)) nil_all))
 have leA:Le [s] st st6:=(le0.of0.trans le1).then le16 (cons_all (.inr (W07 _ _)) (cons_all (.inr (W04 _)) (cons_all (.inr (W07 _ _)) nil_all)));exact ⟨st0,st4,st6,a',b',D,e0,R0,R1,⟨hs1.le le16 (nmc Ls.symm (nmc (W05 hs.1) (nm1 Ls.symm))),up (Has.put_same hL3.1) (ne_add0 rfl),up hcc4 (ne_add rfl),Has.put_same hI5.1,up hc4 (ne_add rfl),up (mv l2 rfl rfl) (ne_add rfl),up (mv l3 rfl rfl) (ne_add rfl),hids.put (by omega),els.le (fun i y e=>(x.ok i y e).m) le16 (cons_all (by omega) (cons_all (by omega) (cons_all (by omega) nil_all))),hTb.le leA (cons_all ⟨_,hs,fun u0=>nofun⟩ nil_all) (nm1 hjs),hs.1,hjt,x.len,hN,x.ok⟩,leA⟩
end
section
variable {T:Tab}{nt:List Stmt}{orc:Orc}{st st' st1 st2:St}{ξ:Z3}{s L jt:Nat}{ps:Array Value}{q0:Str}{N:Nat}{D:List ZK}{a b:Int}{F F':List (Str×MV)}
theorem Cx.z (x:Cx st s L jt ps q0 N D a b F):Cz st L N D:=⟨x.cc,x.ci,x.ch,x.ids,x.el,fun i y e=>(x.ok i y e).m⟩
theorem Cz.put0 (x:Cz st L N D):Cz (st.put L o) L N D:=x.le (M:=[L]) (Le.put W0d) (cons_all (W02 L) nil_all)
theorem Z4t:ZY T ro st .Eq (.str x) (.str x)=some true:=by
 show some (seq x x)=_
 rw [Z37,decide_eq_true rfl]
theorem Zb2 (x:Cx st s L jt ps q0 N D a b (XG s N L)):Run (Z1 nt orc) (.tst (ifT (riS 2)) (Zk L 18)) st (.b (decide ((8:Int)<N))) st :=
 ZJ (a:=.int N) (b:=.int 8) rfl (Jl x.fr ∅ ∅ ∅ _) (Z4 rfl) fun ro=>rfl
theorem ZbV (x:Cx st s L jt ps q0 9 D a b (XG s 9 L)):∃ st',Zd (Z1 nt orc) (.st (riS 2) (Zk L 18)) st (.ret (.bool true)) st'∧Le [jt] st st'∧Tb st' jt 603 ps q0 riQ:=by
 have z:=x.z;have lks:Lks 9 none D:=fun k d hd=>⟨fun h=>by
  rcases (x.ok k d hd).lk with ⟨_,h2⟩ | ⟨h2,_⟩
  ·exact h2
  ·omega,fun u0 u0 h=>nomatch h⟩
 (refine xEAA (Z6M (nt:=nt) (orc:=orc) (k:=2) (C:=101) (.inl rfl) (.inl rfl) z x.hjL x.tb (Z84 (by decide)) (rest:=(List.range 7).map fun j=>bsT L (0+1+j)) (by rw [length_map,length_range]; decide) (fun z'=>Z7V z' x.hN lks)) ?_;intro st' r le tb)
 exact ⟨st',Zem (d:=true) (Zb2 x).L (Z6l (Zc0 (Zbe rfl r (Z4 (v:=.str "limit") rfl).L (fun ro=>Z4t)))),le,tb⟩
theorem ZcD (hn:Yg nt)(x:Cx st s L jt ps q0 N D a b (XG s N L))(h8:N≤8) :
  ∃ (st':St) (a' b':Int),Zd (Z1 nt orc) (.sts [riS 2,riS 3,riS 4,riS 5,riS 6,riS 7,riS 8,riS 9,riS 10,riS 11,riS 12,riS 13,riS 14] (Zk L 18)) st (.ret (.bool true)) st'∧Has st' s (.src a' b' [])∧Tb st' jt 603 ps q0 riQ∧∃ M,Le M st st'∧∀ m∈M,m=s∨m=jt∨L≤m:=by
 have mN:=QV x.many;have t2:=Zb2 (nt:=nt) (orc:=orc) x;rw [show decide ((8:Int)<N)=false by rw [decide_eq_false_iff_not]; omega] at t2;have R2:Run (Z1 nt orc) (.st (riS 2) (Zk L 18)) st .nx st:=Y8 (d:=false) t2 Ye;obtain ⟨s3,R3,le3⟩:=Zff (nt:=nt) (orc:=orc) x h8;have x3:=x.le le3;obtain ⟨s4,sm,R4,le4,x4,sm4⟩:=Zfd (nt:=nt) (orc:=orc) x3
 obtain ⟨s5,R5,le5⟩:=ZeH (nt:=nt) (orc:=orc) hn x4 sm4;have x5:=x4.le le5;obtain ⟨s6,R6,le6⟩:=ZeJ (nt:=nt) (orc:=orc) x5;have x6:=x5.le le6;obtain ⟨s7,R7,le7⟩:=Zeu (nt:=nt) (orc:=orc) x6;have x7:=x6.le le7;obtain ⟨s8,f,fw,fh,R8,le8,x8,f8⟩:=Zfg (nt:=nt) (orc:=orc) x7;obtain ⟨p1,q1,k1,L1⟩:=Zcp x8;obtain ⟨p2,q2,k2,L2⟩:=Zci x8;obtain ⟨s9,dn,ac,R9,le9,x9,A9,B9⟩:=Zf7 (nt:=nt) (orc:=orc) x8 f8 k1 k2
 obtain ⟨s10,R10,le10⟩:=Zd6 (nt:=nt) (orc:=orc) x9 A9 (L1 nt);have x10:=x9.le le10;obtain ⟨s11,R11,le11⟩:=Zdi (nt:=nt) (orc:=orc) x10 (B9.le0 le10) (L2 nt);have x11:=x10.le le11
 (refine xEEEEEAAA (ZcZ (nt:=nt) (orc:=orc) x11) ?_;intro t s12 a' b' D' ht R12 src12 o0;refine xAAAAAAEE o0 ?_;clear o0;intro fr12 o1 tb12 z12 hD' lks y a1 o2;refine xAA o2 ?_;clear o2;intro at12 ha1 hl1;obtain ⟨M,le12,hM⟩:=o1)
 have eqt:Run (Z1 nt orc) (.tst (Zmr (riS 13)) (Zk L 18)) s12 (.b (seq t "#none")) s12 :=
  ZJ (a:=.str t) (b:=.str "#none") rfl (Yz (a:=.ref a1) (b:=.str "href") rfl (at12 _ _ _ _ _ _) (Z4 rfl) (fun ro=>(Z4a (ha1.rd ro)).trans hl1)) (Z4 rfl) fun ro=>rfl
 have hj:=x.hjL;have leAll:∀ {s13 s14:St},Le [L] s12 s13→Le [jt] s13 s14→∃ M,Le M st s14∧∀ m∈M,m=s∨m=jt∨L≤m:=fun h13 h14=>by
  refine ⟨s::jt::L::M,?_,fun m hm=>?_⟩
  ·have q (l:List Nat) (h:∀ m∈l,m∈s::jt::L::M) {u v:St} (k:Le l u v):Le (s::jt::L::M) u v:=k.sub h;exact ((((((((((((q [] (by simp) le3).trans (q [L] (by simp) le4)).trans (q [] (by simp) le5)).trans (q [] (by simp) le6)).trans (q [] (by simp) le7)).trans (q [L] (by simp) le8)).trans (q [L] (by simp) le9)).trans (q [] (by simp) le10)).trans (q [] (by simp) le11)).trans (q M (by simp +contextual) le12)).trans (q [L] (by simp) h13)).trans (q [jt] (by simp) h14))
  ·simp only [mem_cons] at hm;rcases hm with rfl | rfl | rfl | hm
   ·exact .inl rfl
   ·exact .inr (.inl rfl)
   ·exact .inr (.inr (W04 _))
   ·rcases hM m hm with h | h
    ·exact .inl h
    ·exact .inr (.inr (by omega))
 have fin:∀ {due:Str} {C:Nat} {rest:List Nat},due=(if C=101 then ofString "limit" else ofString "sheet")→(C=101∨C=77)→1+rest.length≤8→Run (Z1 nt orc) (.st (riS 13) (Zk L 18)) s12 .nx (s12.put L (.frame (Zlr s N L sm f dn ac due))) →
   (∀ {s1:St},Cz s1 L N D'→Yj s1 (Zt 0 (nsB L 4 N)) (bsT L 0) rest∧JU s1 (Zt 0 (nsB L 4 N)) ((bsT L 0::rest).getLast (by simp)) (1+rest.length) C) →
   ∃ (st':St) (a' b':Int),Zd (Z1 nt orc) (.sts [riS 2,riS 3,riS 4,riS 5,riS 6,riS 7,riS 8,riS 9,riS 10,riS 11,riS 12,riS 13,riS 14] (Zk L 18)) st (.ret (.bool true)) st'∧Has st' s (.src a' b' [])∧Tb st' jt 603 ps q0 riQ∧∃ M,Le M st st'∧∀ m∈M,m=s∨m=jt∨L≤m:=by
  intro due C rest hdue hC hz R13 hp
  let s13:=s12.put L (.frame (Zlr s N L sm f dn ac due))
  have le13:Le [L] s12 s13:=Le.put (by simp);have hsL:=x.hsL;have z13:Cz s13 L N D':=z12.put0;have tb13:Tb s13 jt 603 ps q0 riQ:=tb12.le le13 (fun m hm=>by simp at hm;subst hm;exact ⟨_,fr12,fun q=>nofun⟩) (by first | omega | (simp;omega));have fr13:Has s13 L (.frame (Zlr s N L sm f dn ac due)):=Has.put_same fr12.1;obtain ⟨s14,r14,le14,tb14⟩:=Z6M (nt:=nt) (orc:=orc) (k:=14) (.inr rfl) hC z13 hj tb13 (Z84 mN.1) hz hp
  have hjs:s≠jt:=by
   obtain ⟨es,h1,_⟩:=tb13;exact (src12.put (o':=.frame (Zlr s N L sm f dn ac due)) (by omega)).ne h1 nofun
  have R14:Zd (Z1 nt orc) (.st (riS 14) (Zk L 18)) s13 (.ret (.bool true)) s14:=Zc0 (Zbe (a:=.str (if C=101 then ofString "limit" else ofString "sheet")) (b:=.str due) rfl (by
   rcases hC with rfl | rfl<;>exact r14) (Jl (v:=.str due) (fr13.le le14 (by first | omega | (simp;omega))) ∅ ∅ ∅ _).L (fun ro=>by rw [← hdue]; exact Z4t))
  exact ⟨s14,a',b',Ya R2.L (Ya R3.L (Ya R4.L (Ya R5.L (Ya R6.L (Ya R7.L (Ya R8.L (Ya R9.L (Ya R10.L (Ya R11.L (Ya R12.L (Ya R13.L (Z6l R14)))))))))))),(src12.put (by omega)).le le14 (by simp;exact hjs),tb14,leAll le13 le14⟩
 rcases ht with rfl | rfl
 ·refine fin (due:="sheet") (C:=77) (rest:=(List.range (N - 1)).map fun j=>bsT L (0+1+j)) rfl (.inr rfl) (by first | omega | (simp;omega)) ?_ (fun z=>Z88 z hD' mN.1 h8 lks);have e:seq (ofString "#none") "#none"=true:=by kernel_rfl
  rw [e] at eqt;exact Y3 (a:=.str "sheet") rfl (Z2f (d:=true) eqt (Z4 rfl)) (ZH (ξ:=Zk L 18) fr12 ∅ ∅ ∅)
 ·refine fin (due:="limit") (C:=101) (rest:=(List.range 7).map fun j=>bsT L ((0+1+j) % N)) rfl (.inl rfl) (by simp) ?_ (fun z=>Z7o z hD' mN.1 h8 lks);have e:seq (ofString "#e0") "#none"=false:=by kernel_rfl
  rw [e] at eqt;exact Y3 (a:=.str "limit") rfl (Z2f (d:=false) eqt (Z4 rfl)) (ZH (ξ:=Zk L 18) fr12 ∅ ∅ ∅)
theorem Z8O (hn:Yg nt)(hN:JA N)(hs:Has st s (.src a b []))(hTb:Tb st jt 603 ps q0 riQ) :
  ∃ (st':St) (a' b':Int),Zd (Z1 nt orc) (.call (.old 606) [.ref s,.int N] 19) st (.v (.bool true)) st'∧Has st' s (.src a' b' [])∧Le [s,jt] st st'∧Tb st' jt 603 ps q0 riQ:=by
 obtain ⟨s0,s1,s2,a',b',D,e0,R0,R1,x,le2⟩:=ZbA (nt:=nt) (orc:=orc) hN hs hTb;by_cases h9:N=9
 ·subst h9;obtain ⟨s3,r,le3,tb3⟩:=ZbV (nt:=nt) (orc:=orc) x;have hjs:s≠jt:=xEA x.tb fun u0 h u0=>x.src.ne h nofun;refine ⟨s3,a',b',ZfC (r:=riR) (o:=.ret (.bool true)) rfl rfl e0 ?_ rfl,x.src.le le3 (by simp;exact hjs),(le2.sub (by simp)).trans (le3.sub (by simp)),tb3⟩;rw [ZaU];exact Ya R0.L (Ya R1.L (Z6l r))
 ·have h8:N≤8:=by have:=(QV hN).2;omega
  (refine xEEEAAAEA (ZcD (nt:=nt) (orc:=orc) hn x h8) ?_;intro s3 a3 b3 r src3 tb3 M leM hM)
  refine ⟨s3,a3,b3,ZfC (r:=riR) (o:=.ret (.bool true)) rfl rfl e0 ?_ rfl,src3,(le2.sub (by simp)).then leM (fun m hm=>?_),tb3⟩
  ·rw [ZaU];exact Ya R0.L (Ya R1.L r)
  ·rcases hM m hm with rfl | rfl | h
   ·exact .inl (by simp)
   ·exact .inl (by simp)
   ·exact .inr h
end
section
variable {T:Tab}{nt:List Stmt}{orc:Orc}{st st' st1 st2:St}{ξ:Z3}
theorem Z3s (h:decide (Builtin.Int.intBits y > shortFactorBits)=false):Jn x y=true:=by
 unfold Jn;rw [h,Bool.and_false,Bool.false_and]; rfl
theorem Z1e (h:Jn x y=true):XT ro .Mult (.int x) (.int y) st=some (.v (.int (x*y)),st):=by
 show (match Jn x y with | true=>some (Out.v (.int (x*y)),st) | false=>none)=_
 rw [h]
theorem Z9U (hk:kindOf "int" ξ.sc.names=some .globalImplicit)(hfn:Zi ξ.sc.kind=true)(h:Run (Z1 nt orc) (.ex e ξ) st (.v (.int i)) st1)(hs:Zq e=false) :
  Run (Z1 nt orc) (.ex (.Call (.Name "int" p1) [e] [] p2) ξ) st (.v (.int i)) st1 :=
 Zp rfl (by unfold any;rw [hs]; rfl) rfl (Zf (v:=.bi .int) hfn hk ∅ ∅) (Z9 h) (YY fun ro=>rfl)
def Yk (st:St)(i:Nat):Prop:=i<st.n∧st.get i=none
theorem Yk.le (h:Yk st i)(k:Le M st st1)(hi:i∉M):Yk st1 i:=⟨W00 h.1 k.1,by rw [k.2 i h.1 hi]; exact h.2⟩
theorem Yk.le0 (h:Yk st i)(k:Le [] st st1):Yk st1 i:=h.le k not_mem_nil
theorem Yk.le1 (h:Yk st i)(k:Le [m] st st1)(hi:i≠m):Yk st1 i:=h.le k (by simpa using hi)
theorem Yk.ne (h:Yk st i)(h':Has st j o):i≠j:=fun q=>by subst q;have:=h'.2;rw [h.2] at this;cases this
theorem Yk.rd (h:Yk st i)(hr:ro.get i=some o):Mine.rd ro st i=some o:=by unfold Mine.rd;rw [h.2]; exact hr
def Zn (sc:Nat)(xs:List Int)(T:Tab)(cmd:Cmd)(st:St)(o:Out)(st':St):Prop:=∀ c,QU c T→c.ro.get sc=some (.list (xs.map .int))→Z0 c T cmd st o st'
section
variable {sc:Nat}{xs:List Int}{e e1 e2:Expr}{p:Pos}{a b v:MV}{o:Out}{t:Stmt}{l:List Stmt}
theorem Zd.S (h:Zd T cmd st o st'):Zn sc xs T cmd st o st':=fun c W u0=>h c W
theorem Run.S (h:Run T cmd st o st'):Zn sc xs T cmd st o st':=fun c W u0=>h c W.W
theorem Zd5:Zn sc xs T (.sts [] ξ) st .nx st:=Ye.S
theorem XJ (h1:Zn sc xs T (.st t ξ) st .nx st1)(h:Zn sc xs T (.sts l ξ) st1 o st'):Zn sc xs T (.sts (t::l) ξ) st o st':=fun c W R=>QI (h1 c W R) (h c W R)
theorem Zc9 (h1:Zn sc xs T (.st t ξ) st (.ret v) st1):Zn sc xs T (.sts (t::l) ξ) st (.ret v) st1:=fun c W R=>Z5i (h1 c W R)
theorem ZfD (h1:Zn sc xs T (.tst e ξ) st (.b d) st1)(h2:Zn sc xs T (.sts (if d then b1 else b2) ξ) st1 o st'):Zn sc xs T (.st (.If e b1 b2 p) ξ) st o st':=fun c W R=>Zcz (h1 c W R) (h2 c W R)
theorem ZcN (hs:ZI e2=false)(h1:Zn sc xs T (.ex e1 ξ) st (.v a) st1)(h2:Zn sc xs T (.ex e2 ξ) st1 (.v b) st2)(h:∀ ro,ZY T ro st2 op a b=some d):Zn sc xs T (.tst (.Compare e1 [op] [e2] p) ξ) st (.b d) st2:=fun c W R=>Z3E W.W hs (h1 c W R) (h2 c W R) (h c.ro)
theorem Z2h (hf:Qz f=false)(hs:args.any Zq=false)(hfun:YS T fv=true)(h1:Zn sc xs T (.ex f ξ) st (.v fv) st1)(h2:Zn sc xs T (.exs args ξ) st1 (.vs vs) st2)(h:Zn sc xs T (.call fv vs ξ.lev) st2 (.v v) st') :
  Zn sc xs T (.ex (.Call f args [] p) ξ) st (.v v) st':=fun c W R=>Z58 W.W hf hs hfun (h1 c W R) (h2 c W R) (h c W R)
theorem Z8v (h3:Zn sc xs T (.ex e ξ) st (.v v) st1)(h4:Zn sc xs T (.exs rest ξ) st1 (.vs vs) st2):Zn sc xs T (.exs (e::rest) ξ) st (.vs (v::vs)) st2:=fun c W R=>Z8x (h3 c W R) (h4 c W R)
theorem ZcJ (hg:Zjp e1 e2=true)(h1:Zn sc xs T (.ex e2 ξ) st (.v a) st1)(h2:Zn sc xs T (.asg e1 a ξ) st1 .u st2):Zn sc xs T (.st (.Assign [e1] e2 p) ξ) st .nx st2:=fun c W R=>Z1p hg (h1 c W R) (h2 c W R)
theorem ZeP {args bs:List MV}(hr:T.fn k=some r)(hb:Yw r.ps r.dfl args=some bs)(hk:Zi r.sc.kind=true)(hc:Xm r.sc.names=true)(hl:Zhz r.sc.names r.ps=true)(hn:r.ps.length=bs.length)
  (h2:Zn sc xs T (.sts r.body (Zv r st.n lev)) (st.push (.frame (Jc r.ps bs []))) o st') (hx:JL o=some v):Zn sc xs T (.call (.old k) args (lev+1)) st (.v v) st':=fun c W R=>Z9x W.W hr hb hk hc hl hn (fun L=>h2 _ (W.withG L) R) hx
theorem Zg8 {args bs:List MV}(hr:T.fn k=some r)(hb:Yw r.ps r.dfl args=some bs)(h1:ZO r bs lev st=some (.u,st1))(h2:Zn sc xs T (.sts r.body (Zv r st.n lev)) st1 o st')(hx:JL o=some v):Zn sc xs T (.call (.old k) args (lev+1)) st (.v v) st' :=
 fun c W R=>ZdB W.W hr hb h1 (fun L=>h2 _ (W.withG L) R) hx
theorem Zft (hs:ZI e2=false)(h1:Zn sc xs T (.ex e2 ξ) st (.v a) st1)(h2:∀ ro,ZT T ro st1 a (fun i st=>some (.v (.ref i),st))=some (.v (.ref i),st2))(h:Zn sc xs T (.forl e1 i b1 ξ) st2 o st'):Zn sc xs T (.st (.For e1 e2 b1 [] p) ξ) st o st' :=
 fun c W R=>ZbT W.W hs (h1 c W R) (h2 c.ro) (h c W R)
theorem Zd1 (hx:∀ ro,Zy T ro st it=some (some v,st1))(hl:YF e it v st1=some st2)(ha:Run T (.asg e v ξ) st2 .u st3)(hb:Zn sc xs T (.sts b1 ξ) st3 .nx st4)(hn:Zn sc xs T (.forl e it b1 ξ) st4 o st'):Zn sc xs T (.forl e it b1 ξ) st o st' :=
 fun c W R=>Z3F W.W (hx c.ro) hl (ha c W.W) (hb c W R) (.inl ⟨rfl,hn c W R⟩)
theorem ZcH (h:Yk st sc)(hz:xs.length≤1000000):Zn sc xs T (.call (.bi .len) [.ref sc] lev) st (.v (.int xs.length)) st:=fun c W R=>Zes W.W (by
 show (match rd c.ro st sc with | some (.list xs)=>(match ble xs.length lim with | true=>some (Out.v (.int xs.length),st) | false=>none) | some (.tup xs)=>_ | _=>none)=_
 rw [h.rd R];dsimp only;rw [length_map,show ble xs.length lim=true from ble_eq_true_of_le hz])
theorem Ze6 {k:Nat}(h:Yk st sc)(hk:xs[k]?=some w)(hz:xs.length≤1000)(hi:XX e2=false)(h1:Run T (.ex e1 ξ) st (.v (.ref sc)) st)(h2:Run T (.ex e2 ξ) st (.v (.int k)) st):Zn sc xs T (.ex (.Subscript e1 e2 p) ξ) st (.v (.int w)) st:=fun c W R=>Q3 W.W hi (h1 c W.W) (h2 c W.W) (by
 refine (Z7t (h.rd R)).trans ?_;exact JQ (by rw [getElem?_map,hk]; rfl) (by have:=(List.getElem?_eq_some_iff.mp hk).1;omega))
end
def plR:ZF:=Z8 (Ze 65) [] 548 "_law_pool"
def JB (L lev:Nat):Z3:=⟨plR.sc,L,[],plR.code,ZU plR.qual,lev⟩
def ZlT (cell:Int):Int:=JY cell (-1 - cell)
noncomputable def ZlO (big k:Int):Int:=(((big.fmod 2147483629+7919*k*k+31*k+17)*48271)).fmod 2147483647
theorem Zac {k:Nat}(hsc:Yk st sc)(hz:xs.length≤1000)(hk:k<2) :
  ∃ (st':St) (l:Nat) (a b:Int),Zn sc xs (Z1 nt orc) (.call (.old 549) [.ref sc,.int k] (lev+1)) st (.v (.ref l)) st'∧Le [] st st'∧Has st' l (.src a b [])∧st.n≤l:=by
 let L:=st.n
 let F0:List (Str×MV):=[("script",.ref sc),("k",.int k)]
 let F1 (c:Int):List (Str×MV):=[("script",.ref sc),("k",.int k),("cell",.int c)]
 let F2 (c b:Int):List (Str×MV):=[("script",.ref sc),("k",.int k),("cell",.int c),("big",.int b)]
 let F3 (c b m:Int):List (Str×MV):=[("script",.ref sc),("k",.int k),("cell",.int c),("big",.int b),("mixed",.int m)]
 let s0:=st.push (.frame F0)
 have h0:Has s0 L (.frame F0):=Has.new;have loc:∀ {sx:St} {F:List (Str×MV)} {x:Str} {v:MV},Has sx L (.frame F)→kindOf x (JB L lev).sc.names=some .local→Z2 x F=some v→decide (x=dbg)=false→∀ p,Run (Z1 nt orc) (.ex (.Name x p) (JB L lev)) sx (.v v) sx:=fun hF hk hl hd p=>Za hF ∅ hk hl hd
 let s1:=s0.put L (.frame (F1 0))
 have h1:Has s1 L (.frame (F1 0)):=Has.put_same h0.1;have R0:Run (Z1 nt orc) (.st (Zo 0 plR.body) (JB L lev)) s0 .nx s1:=Y3 rfl (Z4 rfl) (ZH (ξ:=JB L lev) h0 ∅ ∅ ∅);have sc1:Yk s1 sc:=(hsc.le0 (Le.push (o:=.frame F0))).le1 (m:=L) (Le.put W0d) (W05 hsc.1);have tst:Zn sc xs (Z1 nt orc) (.tst (ifT (Zo 1 plR.body)) (JB L lev)) s1 (.b (decide ((k:Int)<xs.length))) s1 :=
  ZcN (a:=.int k) (b:=.int xs.length) rfl (loc h1 ∅ ∅ ∅ _).S (Z2h rfl rfl rfl (Zf (v:=.bi .len) ∅ ∅ ∅ ∅).S (Z9 (loc h1 ∅ ∅ ∅ _)).S (ZcH sc1 (by omega))) fun ro=>rfl
 obtain ⟨s2,cell,R1,h2,le12⟩:∃ s2 cell,Zn sc xs (Z1 nt orc) (.st (Zo 1 plR.body) (JB L lev)) s1 .nx s2∧Has s2 L (.frame (F1 cell))∧Le [L] s1 s2:=by
  by_cases q:k<xs.length
  ·obtain ⟨v,hv⟩:=(⟨_,getElem?_eq_getElem q⟩:∃ v,xs[k]?=some v);rw [decide_eq_true (by omega:(k:Int)<xs.length)] at tst;refine ⟨s1.put L (.frame (F1 v)),v,ZfD (d:=true) tst (XJ (ZcJ (a:=.int v) rfl (Ze6 sc1 hv hz rfl (loc h1 ∅ ∅ ∅ _) (loc h1 ∅ ∅ ∅ _)) (ZH (ξ:=JB L lev) h1 ∅ ∅ ∅).S) Zd5),Has.put_same h1.1,Le.put (by simp)⟩
  ·rw [decide_eq_false (by omega:¬ (k:Int)<xs.length)] at tst;exact ⟨s1,0,ZfD (d:=false) tst Zd5,h1,Le.refl⟩
 let big:=ZlT cell
 let s3:=s2.put L (.frame (F2 cell big))
 have h3:Has s3 L (.frame (F2 cell big)):=Has.put_same h2.1;have R2:Run (Z1 nt orc) (.st (Zo 2 plR.body) (JB L lev)) s2 .nx s3:=by
  refine Y3 (a:=.int big) rfl (Zp rfl rfl rfl (Zf (v:=.bi .max) ∅ ∅ ∅ ∅) (Zb (Z9U ∅ ∅ (loc h2 ∅ ∅ ∅ _) rfl) (Z9 (Z9U (i:=-1 - cell) ∅ ∅ (Yd (a:=.int (-1)) (b:=.int cell) (Zc8 (Z4 rfl)) (loc h2 ∅ ∅ ∅ _) fun ro=>rfl) rfl))) (YY fun ro=>rfl)) (ZH (ξ:=JB L lev) h2 ∅ ∅ ∅)
 let mix:=ZlO big k
 let s4:=s3.put L (.frame (F3 cell big mix))
 have h4:Has s4 L (.frame (F3 cell big mix)):=Has.put_same h3.1;have kb:decide (Builtin.Int.intBits (k:Int) > shortFactorBits)=false:=by
  have:k=0∨k=1:=by omega
  rcases this with rfl | rfl<;>kernel_rfl
 have kR:=fun p=>loc h3 (x:="k") (v:=.int k) ∅ ∅ ∅ p;have R3:Run (Z1 nt orc) (.st (Zo 3 plR.body) (JB L lev)) s3 .nx s4:=by
  refine Y3 (a:=.int mix) rfl (Yd (a:=.int ((big.fmod 2147483629+7919*k*k+31*k+17)*48271)) (b:=.int 2147483647) (Z9U ∅ ∅ (Yd (a:=.int (big.fmod 2147483629+7919*k*k+31*k+17)) (b:=.int 48271) (Yd (a:=.int (big.fmod 2147483629+7919*k*k+31*k)) (b:=.int 17) (Yd (a:=.int (big.fmod 2147483629+7919*k*k)) (b:=.int (31*k)) (Yd (a:=.int (big.fmod 2147483629)) (b:=.int (7919*k*k)) (Yd (a:=.int big) (b:=.int 2147483629) (Z9U ∅ ∅ (loc h3 ∅ ∅ ∅ _) rfl) (Z4 rfl) fun ro=>rfl) (Yd (a:=.int (7919*k)) (b:=.int k) (Yd (a:=.int 7919) (b:=.int k) (Z4 rfl) (kR _) fun ro=>Z1e (Z3s kb)) (kR _) fun ro=>Z1e (Z3s kb)) fun ro=>rfl) (Yd (a:=.int 31) (b:=.int k) (Z4 rfl) (kR _) fun ro=>Z1e (Z3s kb)) fun ro=>rfl) (Z4 rfl) fun ro=>rfl) (Z4 rfl) fun ro=>Z1e (Z3s ∅)) rfl) (Z4 rfl) fun ro=>rfl) (ZH (ξ:=JB L lev) h3 ∅ ∅ ∅)
 let gate:=decide ((1000000000000000000:Int)≤big)
 let A:Int:=big*(if gate then 1 else 0)
 let s5:=s4.push (.list [.int A,.int mix])
 have R4:Run (Z1 nt orc) (.st (Zo 4 plR.body) (JB L lev)) s4 (.ret (.ref s4.n)) s5:=by
  refine YA (YW rfl (Zb (Yd (a:=.int big) (b:=.int (if gate then 1 else 0)) (loc h4 ∅ ∅ ∅ _) (Zp rfl rfl rfl (Zf (v:=.bi .int) ∅ ∅ ∅ ∅) (Z9 (Zao (a:=.int big) (b:=.int 1000000000000000000) (d:=gate) rfl (loc h4 ∅ ∅ ∅ _) (Yd (a:=.int 10) (b:=.int 18) (Z4 rfl) (Z4 rfl) fun ro=>∅) fun ro=>rfl)) (YY fun ro=>rfl)) fun ro=>Z1e (Z3s ?_)) (Z9 (loc h4 ∅ ∅ ∅ _))) (by show 2≤1000000;decide))
  induction gate using Bool.casesOn<;>kernel_rfl
 have hg:Qt A mix:=by
  have hb:0≤big:=by
   show 0≤JY cell (-1 - cell)
   unfold JY
   split<;>omega
  have hm:0≤mix∧mix<2147483647:=⟨Int.fmod_nonneg_of_pos _ (by decide),Int.fmod_lt_of_pos _ (by decide)⟩;refine ⟨?_,hm.1,hm.2⟩;show 0≤big*(if gate then 1 else 0)
  induction gate using Bool.casesOn
  ·simp
  ·simpa using hb
 have le5:Le [] st s5:=by
  have q0:Le [] st s0:=Le.push;have q1:Le [L] s0 s4:=(((Le.put (by simp)).trans le12).trans (Le.put (by simp))).trans (Le.put (by simp));exact (q0.then q1 (by simp [L])).trans Le.push
 have hl:Has s5 s4.n (.list [.int A,.int mix]):=Has.new
 let s6:=s5.put s4.n (.src A mix [])
 have hn4:st.n+1≤s4.n:=by have:=le12.1;show st.n+1≤s2.n;exact this
 refine ⟨s6,s4.n,A,mix,fun c W S=>Z1W (st1:=s5) rfl (fun ρ s R=>Z6h (l:=[]) hl.2 hg ρ s R) (ZeP (r:=plR) (o:=.ret (.ref s4.n)) rfl rfl ∅ ∅ ∅ rfl (XJ R0.S (XJ R1 (XJ R2.S (XJ R3.S (Zc9 R4.S))))) rfl c W S),le5.then (M':=[s4.n]) (Le.put (by simp)) (by first | omega | (simp;omega)),Has.put_same hl.1,by omega⟩
end
section
variable {T:Tab}{nt:List Stmt}{orc:Orc}{st st' st1 st2:St}{ξ:Z3}
theorem Z8d {bs:List MV}(hk:Zi r.sc.kind=true)(hc:Xm r.sc.names=true)(hl:Zhz r.sc.names r.ps=true)(hn:r.ps.length=bs.length) :
  ∃ st1,ZO r bs lev st=some (.u,st1)∧st1.n=st.n+1∧Le [] st st1∧Has st1 st.n (.frame (Jc r.ps bs [])):=by
 obtain ⟨st1,h1,h2,h3⟩:=Z3d (st:=st) (lev:=lev) hk hc hl hn;have p:Has (st.push (.frame (Jc r.ps bs []))) st.n (.frame (Jc r.ps bs [])):=Has.new;have q:Le [] st (st.push (.frame (Jc r.ps bs []))):=Le.push;exact ⟨st1,h1,h2,⟨by rw [h2]; exact q.1,fun i hi hm=>by rw [h3]; exact q.2 i hi hm⟩,⟨by rw [h2]; exact p.1,by rw [h3]; exact p.2⟩⟩
theorem Z5x (hc:Has st c (.list (es.map .ref)))(ht:Yp st "spreadMethod" es l)(hk:(Zs l).getD "pad"="mirror") :
  ∃ (st':St),Zz (Z1 nt orc) (.call (.old 461) [.ref c] (lev+3)) st 77 st'∧Le [] st st':=by
 obtain ⟨st0,en,n0,le0,hL0⟩:=Z8d (r:=spR) (bs:=[.ref c]) (st:=st) (lev:=lev+2) ∅ ∅ ∅ rfl;rw [show Jc spR.ps [MV.ref c] []=[(ofString "elements",.ref c)] by kernel_rfl] at hL0;obtain ⟨st1,r1,le1⟩:=Z1P (nt:=nt) (orc:=orc) (lev:=lev) (y:="pad") (hc.le0 le0) (ht.le le0);rw [hk] at r1;have hL1:=hL0.le0 le1
 let st2:=st1.put st.n (.frame [("elements",.ref c),("kind",.str "mirror")])
 have hL2:Has st2 st.n (.frame [("elements",.ref c),("kind",.str "mirror")]):=Has.put_same hL1.1
 let st3:=st2.push (.tup [.str "pad",.str "repeat",.str "reflect"])
 have hin:YC "mirror" [.str "pad",.str "repeat",.str "reflect"]=some false:=by kernel_rfl
 have le3:Le [] st st3:=((le0.trans le1).then (M':=[st.n]) (Le.put (by simp)) (by simp)).trans Le.push;refine ⟨st3,Z8X (r:=spR) rfl rfl en (Z3Y (st1:=st2) (Y3 rfl (Zp rfl rfl rfl (Zf (v:=.old 442) ∅ ∅ ∅ ∅) (Zb (Za (v:=.ref c) hL0 ∅ ∅ ∅ ∅) (Zb (Z4 rfl) (Z9 (Z4 rfl)))) r1) (ZH (ξ:=Zv spR st.n (lev+2)) hL1 ∅ ∅ ∅))
  (Jk (Z9g (d:=true) (ZJ (a:=.str "mirror") (b:=.ref st2.n) rfl (Za (v:=.str "mirror") hL2 ∅ ∅ ∅ ∅) (QL rfl (Zb (Z4 rfl) (Zb (Z4 rfl) (Z9 (Z4 rfl)))) (by show 3≤1000000;decide)) (fun ro=>Z1Y Has.new hin)) ?_))),le3⟩
 exact Jk (Z1m (lev:=lev+1) rfl rfl (Zf (v:=.old 77) ∅ ∅ ∅ ∅) (Z9 (Yd (a:=.str "no such spread: ") (b:=.str "mirror") (v:=.str "no such spread: mirror") (Z4 rfl) (Za (v:=.str "mirror") (Has.push hL2) ∅ ∅ ∅ ∅) (fun ro=>∅))))
theorem Zag (hc:Has st c (.list (es.map .ref)))(ht:Yp st "gradientUnits" es l)(hk:(Zs l).getD "objectBoundingBox"="box") :
  ∃ (st':St),Zz (Z1 nt orc) (.call (.old 469) [.ref c] (lev+3)) st 77 st'∧Le [] st st':=by
 obtain ⟨st0,en,n0,le0,hL0⟩:=Z8d (r:=bxR) (bs:=[.ref c,.str "gradientUnits",.str "objectBoundingBox"]) (st:=st) (lev:=lev+2) ∅ ∅ ∅ rfl
 let F0:List (Str×MV):=[("elements",.ref c),("name",.str "gradientUnits"),("other",.str "objectBoundingBox")]
 rw [show Jc bxR.ps [MV.ref c,.str "gradientUnits",.str "objectBoundingBox"] []=F0 by kernel_rfl] at hL0;obtain ⟨st1,r1,le1⟩:=Z1P (nt:=nt) (orc:=orc) (lev:=lev) (y:="objectBoundingBox") (hc.le0 le0) (ht.le le0);rw [hk] at r1;have hL1:=hL0.le0 le1
 let F2:List (Str×MV):=[("elements",.ref c),("name",.str "gradientUnits"),("other",.str "objectBoundingBox"),("told",.str "box")]
 let st2:=st1.put st.n (.frame F2)
 have hL2:Has st2 st.n (.frame F2):=Has.put_same hL1.1
 let st3:=st2.push (.tup [.str "objectBoundingBox",.str "userSpaceOnUse"])
 have hin:YC "box" [.str "objectBoundingBox",.str "userSpaceOnUse"]=some false:=by kernel_rfl
 have le3:Le [] st st3:=((le0.trans le1).then (M':=[st.n]) (Le.put (by simp)) (by simp)).trans Le.push;refine ⟨st3,Z8X (r:=bxR) rfl rfl en (Z3Y (st1:=st2) (Y3 rfl (Zp rfl rfl rfl (Zf (v:=.old 442) ∅ ∅ ∅ ∅) (Zb (Za (v:=.ref c) hL0 ∅ ∅ ∅ ∅) (Zb (Za (v:=.str "gradientUnits") hL0 ∅ ∅ ∅ ∅) (Z9 (Za (v:=.str "objectBoundingBox") hL0 ∅ ∅ ∅ ∅)))) r1) (ZH (ξ:=Zv bxR st.n (lev+2)) hL1 ∅ ∅ ∅))
  (Jk (Z9g (d:=true) (ZJ (a:=.str "box") (b:=.ref st2.n) rfl (Za (v:=.str "box") hL2 ∅ ∅ ∅ ∅) (QL rfl (Zb (Z4 rfl) (Z9 (Z4 rfl))) (by show 2≤1000000;decide)) (fun ro=>Z1Y Has.new hin)) ?_))),le3⟩
 exact Jk (Z1m (lev:=lev+1) rfl rfl (Zf (v:=.old 77) ∅ ∅ ∅ ∅) (Z9 (Yd (a:=.str "no such units: ") (b:=.str "box") (v:=.str "no such units: box") (Z4 rfl) (Za (v:=.str "box") (Has.push hL2) ∅ ∅ ∅ ∅) (fun ro=>∅))))
structure XK (st:St)(x a c d:Nat):Prop where
 ka:Has st a (.dict [("stop-color",.str "none")])
 kc:c<st.n
 kd:Has st d (elD "stop" a c)
 ke:Has st x (.inst 501 d)
theorem XK.le (h:XK st x a c d)(k:Le [] st st1):XK st1 x a c d:=⟨h.ka.le0 k,W00 h.kc k.1,h.kd.le0 k,h.ke.le0 k⟩
def ncV:List (Str×MV):=lkV "black" "none" "1"
theorem ZeB (nt:List Stmt):ZM (Z1 nt Y7) 300 (.call (.old 428) [.ref 0,.ref 4] 8) (YM [("stop-color",.str "none")] (lkV "black" "black" "1")) 7 [47,51,52] (.v (.ref 52)) 54 (YM [("stop-color",.str "none")] (lkV "black" "black" "1")) [some (.dict ncV),some (.dict [("values",.ref 47)]),some (.inst 403 51)]:=⟨∅,∅⟩
theorem ZbF (hs:XK st x a c d)(hl:YP st v (lkV "black" "black" "1"))(hav:a≠v)(hdv:d≠v+1)(hxv:x≠v+2)(hlev:8≤lev) :
  ∃ st',Run (Z1 nt orc) (.call (.old 428) [.ref x,.ref (v+2)] lev) st (.v (.ref (st.n+2))) st'∧Le [] st st'∧YP st' st.n ncV:=by
 have hfit:ZG st (idx [x,d,a,c,v+2,v+1,v]) [x,d,a,c,v+2,v+1,v] (YM [("stop-color",.str "none")] (lkV "black" "black" "1")):=by
  refine ⟨hs.ke,hs.kd,hs.ka,hs.kc,hl.ki,hl.kd,?_,trivial⟩;rw [show ZA _ (MObj.dict (lkV "black" "black" "1"))=MObj.dict (lkV "black" "black" "1") from congrArg MObj.dict (Z2v _ _ _ _)];exact hl.kv
 have hnd:(Zj [x,d,a,c,v+2,v+1,v] (YM [("stop-color",.str "none")] (lkV "black" "black" "1"))).Nodup:=by
  show [x,d,a,v+2,v+1,v].Nodup
  have h1:=hs.ke.ne hs.kd nofun;have h2:=hs.ke.ne hs.ka nofun;have h3:x≠v+1:=hs.ke.ne hl.kd nofun;have h4:x≠v:=hs.ke.ne hl.kv nofun;have h5:d≠a:=hs.kd.ne hs.ka (fun q=>by injection q with q;injection q with q;cases q);have h6:d≠v+2:=hs.kd.ne hl.ki nofun;have h7:d≠v:=hs.kd.ne hl.kv (fun q=>by have:=congrArg (fun o=>match o with | MObj.dict es=>es.length | _=>0) q;exact absurd this (by show ¬ 4=24;decide))
  have h8:a≠v+2:=hs.ka.ne hl.ki nofun;have h9:a≠v+1:=hs.ka.ne hl.kd (fun q=>by injection q with q;injection q with q;cases q);simp only [nodup_cons,mem_cons,not_mem_nil,or_false,not_or,not_false_eq_true,nodup_nil,and_true];refine ⟨⟨h1,h2,hxv,h3,h4⟩,⟨h5,h6,hdv,h7⟩,⟨h8,h9,hav⟩,⟨by omega,by omega⟩,by omega⟩
 (refine xEA (Z2b noG (st:=st) (fl:=[x,d,a,c,v+2,v+1,v]) (ZeB nt) rfl hfit hnd) ?_;intro st' m ran)
 have hin:Y1 (below 7) (YM [("stop-color",.str "none")] (lkV "black" "black" "1"))=true:=by kernel_rfl
 exact ⟨st',Yo (Zcy m hlev),ran.keeps hfit hnd hin fun i o hi=>.inl hi,⟨ran.new 0 _ rfl,ran.new 1 _ rfl,ran.new 2 _ rfl⟩⟩
def srR:ZF:=Z8 (Ze 56) [] 453 "stop_row"
theorem Zf3 (nt:List Stmt):ZM (Z1 nt Y7) 300 (.st (Zo 0 srR.body) ⟨srR.sc,0,[],srR.code,ZU srR.qual,7⟩) [some (.frame [("element",.ref 1),("look",.ref 2)]),none,some (.inst 403 3),some (.dict [("values",.ref 4)]),some (.dict ncV)] 5 [] .nx 11 [some (.frame [("element",.ref 1),("look",.ref 2),("shade",.none)]),none,some (.inst 403 3),some (.dict [("values",.ref 4)]),some (.dict ncV)] []:=⟨∅,∅⟩
theorem Z9h (hs:XK st x a c d)(hl:YP st v ncV):∃ st',Zz (Z1 nt orc) (.call (.old 454) [.ref x,.ref (v+2)] 8) st 77 st'∧Le [] st st':=by
 obtain ⟨st0,en,n0,le0,hL0⟩:=Z8d (r:=srR) (bs:=[.ref x,.ref (v+2)]) (st:=st) (lev:=7) ∅ ∅ ∅ rfl;rw [show Jc srR.ps [MV.ref x,.ref (v+2)] []=[((ofString "element"),.ref x),((ofString "look"),.ref (v+2))] by kernel_rfl] at hL0;have hx:=hs.ke.1;have hv:=hl.ki.1;have hl0:=hl.le le0;have hfit:ZG st0 (idx [st.n,x,v+2,v+1,v]) [st.n,x,v+2,v+1,v] [some (.frame [("element",.ref 1),("look",.ref 2)]),none,some (.inst 403 3),some (.dict [("values",.ref 4)]),some (.dict ncV)]:=by
  refine ⟨hL0,by omega,hl0.ki,hl0.kd,?_,trivial⟩;rw [show ZA _ (MObj.dict ncV)=MObj.dict ncV from congrArg MObj.dict (Z2v _ _ _ _)];exact hl0.kv
 have hnd:(Zj [st.n,x,v+2,v+1,v] [some (.frame [("element",.ref 1),("look",.ref 2)]),none,some (.inst 403 3),some (.dict [("values",.ref 4)]),some (.dict ncV)]).Nodup:=by
  show [st.n,v+2,v+1,v].Nodup
  first | omega | (simp only [nodup_cons,mem_cons,not_mem_nil,or_false,not_or,not_false_eq_true,nodup_nil,and_true]; omega)
 obtain ⟨st1,m,ran⟩:=Z9N noG (st:=st0) (fl:=[st.n,x,v+2,v+1,v]) (Zf3 nt) rfl hfit hnd;have hL1:Has st1 st.n (.frame [("element",.ref x),("look",.ref (v+2)),("shade",.none)]):=ran.old 0 _ _ rfl rfl;have le1:Le [st.n,v+2,v+1,v] st0 st1:=ran.le;have keep:Le [st.n] st0 st1:=ran.keeps hfit hnd ∅ fun i o hi=>by
  match i,hi with
  | 0,_=>exact .inr (by simp)
  | i+1,hi=>exact .inl hi
 refine ⟨st1,Z8X (r:=srR) rfl rfl en (Z3Y (Yo m) (Jk (Z9g (d:=true) (ZJ (a:=.none) (b:=.none) rfl (Za (v:=.none) hL1 ∅ ∅ ∅ ∅) (Z4 rfl) fun ro=>rfl) (Jk (Z1m (lev:=6) rfl rfl (Zf (v:=.old 77) ∅ ∅ ∅ ∅) (Z9 (Z4 rfl))))))),le0.then keep (by simp)⟩
end
section
variable {T:Tab}{nt:List Stmt}{orc:Orc}{st st' st1 st2:St}{ξ:Z3}
theorem Z7g (hc:Has st c (.list [.ref e]))(hE:El st e nm a ch es)(hch:Has st ch (.list [.ref x]))(hs:XK st x ax cx dx)(hl:YP st v (lkV "black" "black" "1"))(hav:ax≠v)(hdv:dx≠v+1)(hxv:x≠v+2)(hlev:8≤lev) :
  ∃ st',Zz (Z1 nt orc) (.call (.old 447) [.ref c,.ref (v+2)] (lev+1)) st 77 st'∧Le [] st st':=by
 obtain ⟨st1,e1,n1,le1,hL,hC⟩:=Z65 (st:=st) (lev:=lev) (u:=.ref c) (v:=.ref (v+2))
 let s2:=st1.push (.itList c 0)
 have hL2:Has s2 st.n (.frame (soF c none none)):=hL.push;have hi2:Has s2 st1.n (.itList c 0):=Has.new;have hC2:Has s2 (st.n+1) (.cell (some (.ref (v+2)))):=hC.push;have le2:Le [] st s2:=le1.trans Le.push
 let s3:=s2.put st1.n (.itList c 1)
 let s4:=s3.put st.n (.frame (soF c (some (.ref e)) none))
 have hL3:Has s3 st.n (.frame (soF c none none)):=hL2.put (by omega);have hL4:Has s4 st.n (.frame (soF c (some (.ref e)) none)):=Has.put_same hL3.1;have hC4:Has s4 (st.n+1) (.cell (some (.ref (v+2)))):=(hC2.put (by omega)).put (by omega);have le4:Le [] st s4:=le2.then (M':=[st1.n,st.n]) ((Le.put (by simp)).trans (Le.put (by simp))) (by first | omega | (simp;omega));obtain ⟨p1,p2,p3⟩:=Z7q c none none (.ref e) (fun u0=>rfl)
 let s5:=s4.push (.itList ch 0)
 let s6:=(s5.push (.list [])).push (.frame [])
 have le6:Le [] st s6:=le4.trans ((Le.push.trans Le.push).trans Le.push);have hi6:Has s6 s4.n (.itList ch 0):=Has.new.push.push;have hf6:Has s6 (s4.n+2) (.frame []):=Has.new;have hC6:Has s6 (st.n+1) (.cell (some (.ref (v+2)))):=hC4.push.push.push
 let s7:=s6.put s4.n (.itList ch 1)
 let s8:=s7.put (s4.n+2) (.frame [("child",.ref x)])
 have hf7:Has s7 (s4.n+2) (.frame []):=hf6.put (by omega);have hf8:Has s8 (s4.n+2) (.frame [("child",.ref x)]):=Has.put_same hf7.1;have n4:s4.n=st.n+3:=by show st1.n+1=_;omega
 have hC8:Has s8 (st.n+1) (.cell (some (.ref (v+2)))):=(hC6.put (by omega)).put (by omega);have le8:Le [] st s8:=le6.then (M':=[s4.n,s4.n+2]) ((Le.put (by simp)).trans (Le.put (by simp))) (by first | omega | (simp;omega));have hs8:=hs.le le8;have hl8:=hl.le le8;have hE8:El s8 x "stop" ax cx [("stop-color",.str "none")]:=⟨dx,hs8.ke,hs8.kd,hs8.ka⟩;obtain ⟨s9,r9,le9,hl9⟩:=ZbF (nt:=nt) (orc:=orc) (lev:=lev) hs8 hl8 hav hdv hxv hlev
 obtain ⟨s10,r10,le10⟩:=Z9h (nt:=nt) (orc:=orc) (hs8.le le9) hl9;have le810:=le9.trans le10;have chR:∀ {sy:St} p,Le [] s8 sy→Run (Z1 nt orc) (.ex (.Name "child" p) (Zlo (s4.n+2) (st.n+1) lev)) sy (.v (.ref x)) sy:=fun p k=>Za (hf8.le0 k) ∅ ∅ ∅ ∅;have hf10:=hf8.le0 le810;have rows:Zz (Z1 nt orc) (.st (Zo 0 soB) (Yu st.n (st.n+1) lev)) s4 77 (s10.del (s4.n+2)):=by
  refine Z5p (a:=.ref ch) (st1:=s4) (st2:=s5) (it:=s4.n) (cs:=[("look",st.n+1)]) (m:=[("child",.ref x)]) (st3:=s10) ∅ ∅ ∅ ∅ ∅ ((hE.le le4).children rfl (Za hL4 ∅ ∅ p2 ∅)) (fun ro=>QN (hch.le0 le4)) ?_ ?_ hf10.2
  ·rw [(Has.new:Has s5 s4.n (.itList ch 0)).2]; rfl
  ·refine Z9w (st1:=s7) (st3:=s8) (fun ro=>Z0W hi6 (hch.le0 le6) rfl) rfl (ZH (ξ:=Zlo (s4.n+2) (st.n+1) lev) hf7 ∅ ∅ ∅) (Z3H (ZJ (a:=.str "stop") (b:=.str "stop") rfl (hE8.name rfl (chR _ Le.refl)) (Z4 rfl) (fun ro=>Z4t))) ?_;exact XF rfl rfl rfl (Zf (v:=.old 454) ∅ ∅ ∅ ∅) (Zb (chR _ Le.refl) (Z9 (Zp rfl rfl rfl (Zf (v:=.old 428) ∅ ∅ ∅ ∅) (Zb (chR _ Le.refl) (Z9 (Ql (j:=st.n+1) ∅ ∅ ∅ hC8 ∅))) r9))) (ZeX r10 hlev)
 refine ⟨s10.del (s4.n+2),Z8X (r:=soR) rfl rfl e1 (Jk (Zds (a:=.ref c) (st1:=st1) (st2:=s2) (i:=st1.n) rfl (Za hL ∅ ∅ ∅ ∅) (fun ro=>QN (hc.le0 le1)) (Za6 (st1:=s3) (st3:=s4) (fun ro=>Z0W hi2 (hc.le0 le2) rfl) rfl (ZH (ξ:=Yu st.n (st.n+1) lev) hL3 ∅ ∅ p1) (Jk rows)))),(le8.trans le810).then (M':=[s4.n+2]) (Le.del (by simp)) (by first | omega | (simp;omega))⟩
end
def laR:ZF:=Z8 (Ze 75) [] 610 "law"
def laS (k:Nat):Stmt:=Zo k laR.body
def ZD (L lev:Nat):Z3:=⟨laR.sc,L,[("table",L+3),("rows",L+2),("nine",L+1)],laR.code,ZU laR.qual,lev⟩
def laQ:Str:=ZP (ZD 0 0)
def laT:Expr:=match laS 0 with | .For t _ _ _ _=>t | _=>.Name "" ⟨0,0,0,0⟩
def laB:List Stmt:=match laS 0 with | .For _ _ b _ _=>b | _=>[]
def lbS (k:Nat):Stmt:=Zo k laB
def Zmh:Expr:=match lbS 1 with | .For t _ _ _ _=>t | _=>.Name "" ⟨0,0,0,0⟩
def Zm4:List Stmt:=match lbS 1 with | .For _ _ b _ _=>b | _=>[]
theorem Zec:laR.body=[laS 0,laS 1,laS 2,laS 3,laS 4,laS 5,laS 6]:=∅
theorem Zdf:laB=[lbS 0,lbS 1,lbS 2,lbS 3,lbS 4,lbS 5]:=∅
noncomputable def Zl9 (x:Str):Option MV→List (Str×MV) | none=>[] | some v=>[(x,v)]
def laF (sc:Nat)(k s m b e:Option MV):List (Str×MV):=((ofString "script"),MV.ref sc)::(Zl9 "k" k++(Zl9 "source" s++(Zl9 "many" m++(Zl9 "both" b++Zl9 "ends" e))))
def Shp (k s m:Option MV):Prop:=(k=none∧s=none∧m=none)∨∃ a b c,k=some a∧s=some b∧m=some c
theorem ZeR (h:Shp k s m)(v:MV):Zh "k" v (laF sc k s m none none)=laF sc (some v) s m none none:=by
 rcases h with ⟨rfl,rfl,rfl⟩ | ⟨a,b,c,rfl,rfl,rfl⟩<;>kernel_rfl
theorem Zey (h:Shp k s m)(u v:MV):Zh "source" v (laF sc (some u) s m none none)=laF sc (some u) (some v) m none none:=by
 rcases h with ⟨rfl,rfl,rfl⟩ | ⟨a,b,c,rfl,rfl,rfl⟩<;>kernel_rfl
theorem Zfo (u w v:MV):Zh "many" v (laF sc (some u) (some w) m none none)=laF sc (some u) (some w) (some v) none none:=by
 induction m using Option.casesOn<;>kernel_rfl
theorem Zb4:Z2 "script" (laF sc k s m b e)=some (.ref sc):=∅
theorem Zcx:Z2 "k" (laF sc (some v) s m b e)=some v:=∅
theorem Z5P:Z2 "source" (laF sc (some u) (some v) m b e)=some v:=∅
theorem Zca:Z2 "many" (laF sc (some u) (some w) (some v) b e)=some v:=∅
structure Lx (st:St)(sc L j3 j8:Nat)(ps3:Array Value)(q3:Str)(ps8:Array Value)(q8:Str)(xs:List Int)(F:List (Str×MV)):Prop where
 hsc:Yk st sc
 fr:Has st L (.frame F)
 c1:∃ o,Has st (L+1) (.cell o)
 c2:∃ o,Has st (L+2) (.cell o)
 c3:∃ o,Has st (L+3) (.cell o)
 t3:Tb st j3 603 ps3 q3 riQ
 t8:Tb st j8 608 ps8 q8 laQ
 hs:sc<L
 h3:j3<L
 h8:j8<L
section
variable {T:Tab}{nt:List Stmt}{orc:Orc}{st st' st1 st2:St}{ξ:Z3}{sc L j3 j8:Nat}{ps3 ps8:Array Value}{q3 q8:Str}{xs:List Int}{F F':List (Str×MV)}
noncomputable def laM (L j3 j8:Nat):List Nat:=[L,L+1,L+2,L+3,j3,j8]
theorem Lx.n (x:Lx st sc L j3 j8 ps3 q3 ps8 q8 xs F):L+4≤st.n:=xE x.c3 fun u0 h=>h.1
theorem Lx.ne38 (x:Lx st sc L j3 j8 ps3 q3 ps8 q8 xs F):j3≠j8:=by
 obtain ⟨_,h1,_⟩:=x.t3;obtain ⟨_,h2,_⟩:=x.t8;exact h1.ne h2 (fun q=>absurd (MObj.noConfusion q fun e u0 u0 u0=>e) (by decide))
theorem Lx.ne3 (x:Lx st sc L j3 j8 ps3 q3 ps8 q8 xs F):sc≠j3:=xEA x.t3 fun u0 h1 u0=>x.hsc.ne h1
theorem Lx.ne8 (x:Lx st sc L j3 j8 ps3 q3 ps8 q8 xs F):sc≠j8:=xEA x.t8 fun u0 h1 u0=>x.hsc.ne h1
theorem Lx.le0 (x:Lx st sc L j3 j8 ps3 q3 ps8 q8 xs F)(k:Le [] st st1):Lx st1 sc L j3 j8 ps3 q3 ps8 q8 xs F :=
 ⟨x.hsc.le0 k,x.fr.le0 k,xE x.c1 fun o h=>⟨o,h.le0 k⟩,xE x.c2 fun o h=>⟨o,h.le0 k⟩,xE x.c3 fun o h=>⟨o,h.le0 k⟩,x.t3.le0 k,x.t8.le0 k,x.hs,x.h3,x.h8⟩
theorem Lx.leS (x:Lx st sc L j3 j8 ps3 q3 ps8 q8 xs F)(hs:L+4≤s)(ho:Has st s o)(hno:∀ q,o ≠ .code q)(k:Le [s] st st1):Lx st1 sc L j3 j8 ps3 q3 ps8 q8 xs F:=by
 have e1:=x.hs;have e2:=x.h3;have e3:=x.h8;have cd:∀ m∈[s],∃ o,Has st m o∧∀ q,o ≠ .code q:=fun m hm=>by simp at hm;subst hm;exact ⟨_,ho,hno⟩
 exact ⟨x.hsc.le1 k (by omega),x.fr.le1 k (by omega),xE x.c1 fun o h=>⟨o,h.le1 k (by omega)⟩,xE x.c2 fun o h=>⟨o,h.le1 k (by omega)⟩,xE x.c3 fun o h=>⟨o,h.le1 k (by omega)⟩,x.t3.le k cd (by first | omega | (simp;omega)),x.t8.le k cd (by first | omega | (simp;omega)),e1,e2,e3⟩
theorem Lx.put (x:Lx st sc L j3 j8 ps3 q3 ps8 q8 xs F):Lx (st.put L (.frame F')) sc L j3 j8 ps3 q3 ps8 q8 xs F':=by
 have k:Le [L] st (st.put L (.frame F')):=Le.put (by simp);have e1:=x.hs;have e2:=x.h3;have e3:=x.h8;have f:=x.fr;have cd:∀ m∈[L],∃ o,Has st m o∧∀ q,o ≠ .code q:=fun m hm=>by simp at hm;subst hm;exact ⟨_,f,fun q=>nofun⟩
 exact ⟨x.hsc.le1 k (by omega),Has.put_same f.1,xE x.c1 fun o h=>⟨o,h.le1 k (by omega)⟩,xE x.c2 fun o h=>⟨o,h.le1 k (by omega)⟩,xE x.c3 fun o h=>⟨o,h.le1 k (by omega)⟩,x.t3.le k cd (by first | omega | (simp;omega)),x.t8.le k cd (by first | omega | (simp;omega)),e1,e2,e3⟩
theorem Lx.cell (x:Lx st sc L j3 j8 ps3 q3 ps8 q8 xs F)(hi:i=1∨i=2∨i=3):Lx (st.put (L+i) (.cell w)) sc L j3 j8 ps3 q3 ps8 q8 xs F:=by
 have k:Le [L+i] st (st.put (L+i) (.cell w)):=Le.put (by simp);have e1:=x.hs;have e2:=x.h3;have e3:=x.h8
 (refine xE (by
  rcases hi with rfl | rfl | rfl
  ·exact x.c1
  ·exact x.c2
  ·exact x.c3:∃ o,Has st (L+i) (.cell o)) ?_;intro o hc)
 have cd:∀ m∈[L+i],∃ o,Has st m o∧∀ q,o ≠ .code q:=fun m hm=>by simp at hm;subst hm;exact ⟨_,hc,fun q=>nofun⟩
 have cl:∀ {j:Nat},(∃ o,Has st (L+j) (.cell o))→∃ o,Has (st.put (L+i) (.cell w)) (L+j) (.cell o):=fun {j} ⟨o,h⟩=>by
  by_cases q:j=i
  ·subst q;exact ⟨w,Has.put_same hc.1⟩
  ·exact ⟨o,h.le1 k (by omega)⟩
 exact ⟨x.hsc.le1 k (by omega),x.fr.le1 k (by omega),cl x.c1,cl x.c2,cl x.c3,x.t3.le k cd (by first | omega | (simp;omega)),x.t8.le k cd (by first | omega | (simp;omega)),e1,e2,e3⟩
theorem Lx.of8 (x:Lx st sc L j3 j8 ps3 q3 ps8 q8 xs F)(k:Le [j8] st st1)(t:Tb st1 j8 608 ps8 q8 laQ):Lx st1 sc L j3 j8 ps3 q3 ps8 q8 xs F:=by
 have e1:=x.hs;have e2:=x.h3;have e3:=x.h8;have n1:=x.ne38;have n2:=x.ne8;obtain ⟨_,h8,_⟩:=x.t8;have cd:∀ m∈[j8],∃ o,Has st m o∧∀ q,o ≠ .code q:=fun m hm=>by simp at hm;subst hm;exact ⟨_,h8,fun q=>nofun⟩
 exact ⟨x.hsc.le1 k n2,x.fr.le1 k (by omega),xE x.c1 fun o h=>⟨o,h.le1 k (by omega)⟩,xE x.c2 fun o h=>⟨o,h.le1 k (by omega)⟩,xE x.c3 fun o h=>⟨o,h.le1 k (by omega)⟩,x.t3.le k cd (by simp;exact n1),t,e1,e2,e3⟩
theorem Lx.of3 (x:Lx st sc L j3 j8 ps3 q3 ps8 q8 xs F)(hs:L+4≤s)(ho:Has st s o)(hno:∀ q,o ≠ .code q)(k:Le [s,j3] st st1)(t:Tb st1 j3 603 ps3 q3 riQ):Lx st1 sc L j3 j8 ps3 q3 ps8 q8 xs F:=by
 have e1:=x.hs;have e2:=x.h3;have e3:=x.h8;have n1:=x.ne38;have n2:=x.ne3;obtain ⟨_,h3,_⟩:=x.t3;have cd:∀ m∈[s,j3],∃ o,Has st m o∧∀ q,o ≠ .code q:=fun m hm=>by
  simp at hm;rcases hm with rfl | rfl
  ·exact ⟨_,ho,hno⟩
  ·exact ⟨_,h3,fun q=>nofun⟩
 have lt:∀ {i:Nat} {ob:MObj},Has st i ob→i≠s→i≠j3→Has st1 i ob:=fun h q q'=>h.le k (by simp;exact ⟨q,q'⟩);exact ⟨x.hsc.le k (by simp;exact ⟨by omega,n2⟩),lt x.fr (by omega) (by omega),xE x.c1 fun o h=>⟨o,lt h (by omega) (by omega)⟩,xE x.c2 fun o h=>⟨o,lt h (by omega) (by omega)⟩,xE x.c3 fun o h=>⟨o,lt h (by omega) (by omega)⟩,t,x.t8.le k cd (by first | omega | (simp;omega)),e1,e2,e3⟩
theorem Z9L:∃ st1,ZO laR [u] lev st=some (.u,st1)∧st1.n=st.n+4∧Le [] st st1∧Has st1 st.n (.frame [(ofString "script",u)])∧Has st1 (st.n+1) (.cell none)∧Has st1 (st.n+2) (.cell none)∧Has st1 (st.n+3) (.cell none):=by
 let s0:=(((st.push (.frame [])).push (.cell none)).push (.cell none)).push (.cell none)
 have e:ZO laR [u] lev st=Zx (ZD st.n lev) "script" u s0 fun st=>some (.u,st):=rfl;have hL:Has s0 st.n (.frame []):=Has.new.push.push.push;have h1:Has s0 (st.n+1) (.cell none):=(Has.new:Has ((st.push (.frame [])).push (.cell none)) (st.n+1) (.cell none)).push.push;have h2:Has s0 (st.n+2) (.cell none):=(Has.new:Has (((st.push (.frame [])).push (.cell none)).push (.cell none)) (st.n+2) (.cell none)).push
 have h3:Has s0 (st.n+3) (.cell none):=Has.new;refine ⟨s0.put st.n (.frame [(ofString "script",u)]),?_,rfl,?_,Has.put_same hL.1,h1.put (by omega),h2.put (by omega),h3.put (by omega)⟩
 ·rw [e];exact J5 (ξ:=ZD st.n lev) hL ∅ ∅ (by kernel_rfl:Zh "script" u []=[(ofString "script",u)])
 ·have q:Le [st.n] s0 (s0.put st.n (.frame [(ofString "script",u)])):=Le.put (by simp);have q0:Le [] st s0:=((Le.push.trans Le.push).trans Le.push).trans Le.push;exact q0.then q (by simp)
theorem JV (h:Has st L (.frame F))(hk:kindOf x (ZD L 19).sc.names=some .local)(hl:Z2 x F=some v)(hd:decide (x=dbg)=false)(p:Pos):Run (Z1 nt orc) (.ex (.Name x p) (ZD L 19)) st (.v v) st:=Za h ∅ hk hl hd
theorem Z6u (hs:Has st s (.src a b []))(h0:0<t)(h1:t<1000) :
  ∃ st',Run (Z1 nt orc) (.call (.old 556) [.ref s,.int t] (lev+1)) st (.v (.int (dr a b t))) st'∧Has st' s (.src (nxA a t) (nxB a b) [])∧Le [s] st st':=by
 let s1:=st.put s (.src a b [(t,dr a b t)])
 let s2:=s1.put s (.src (nxA a t) (nxB a b) [])
 let s3:=Yx s2 none
 have g1:Has s1 s (.src a b [(t,dr a b t)]):=Has.put_same hs.1;have g2:Has s2 s (.src (nxA a t) (nxB a b) []):=Has.put_same g1.1;have le3:Le [s] s2 s3:=⟨W03 _,fun i hi u0=>by rw [Qh,if_neg (ne_of_lt hi)]⟩;refine ⟨s3,Z7N hs (l:=[(t,dr a b t)]) ⟨h0,h1,rfl,trivial⟩ (fun c W=>Z5A W g1.2 h0 h1),⟨W08 g2.1,?_⟩,((Le.put (by simp)).trans (Le.put (by simp))).trans le3⟩
 rw [Qh,if_neg (ne_of_lt g2.1)];exact g2.2
end
section
variable {T:Tab}{nt:List Stmt}{orc:Orc}{st st' st1 st2:St}{ξ:Z3}{sc L j3 j8:Nat}{ps3 ps8:Array Value}{q3 q8:Str}{xs:List Int}{F F':List (Str×MV)}
theorem Z9d (hn:Yg nt){s it l k N:Nat}(x:Lx st sc L j3 j8 ps3 q3 ps8 q8 xs (laF sc (some u) (some (.ref s)) m none none))(hs:Has st s (.src a b []))(hsn:L+4≤s)(hit:Has st it (.itList l k))(hitn:L+4≤it)(hl:Has st l (.list vs))(hln:L+4≤l)(hv:vs[k]?=some (.int N))(hN:JA N) :
  ∃ (st':St) (a' b':Int),(∀ (o:Out) (st'':St),Zd (Z1 nt orc) (.forl Zmh it Zm4 (ZD L 19)) st' o st''→Zd (Z1 nt orc) (.forl Zmh it Zm4 (ZD L 19)) st o st'')∧Lx st' sc L j3 j8 ps3 q3 ps8 q8 xs (laF sc (some u) (some (.ref s)) (some (.int N)) none none)∧Le (s::it::laM L j3 j8) st st'∧Has st' s (.src a' b' [])∧Has st' it (.itList l (k+1))∧Has st' l (.list vs):=by
 let s1:=st.put it (.itList l (k+1))
 have le1:Le [it] st s1:=Le.put (by simp);have x1:=x.leS hitn hit (fun q=>nofun) le1;have nsi:s≠it:=hs.ne hit nofun;have nli:l≠it:=hl.ne hit nofun;have nls:l≠s:=hl.ne hs nofun
 let F2:=laF sc (some u) (some (.ref s)) (some (.int N)) none none
 let s2:=s1.put L (.frame F2)
 have x2:Lx s2 sc L j3 j8 ps3 q3 ps8 q8 xs F2:=x1.put;have le2:Le [L] s1 s2:=Le.put (by simp);have hs2:Has s2 s (.src a b []):=(hs.put nsi).put (by omega);have hi2:Has s2 it (.itList l (k+1)):=(Has.put_same hit.1).put (by omega);have hl2:Has s2 l (.list vs):=(hl.put nli).put (by omega)
 (refine xEEEAAA (Z8O (orc:=orc) hn hN hs2 x2.t3) ?_;intro s3 a' b' r3 hs3 le3 t3)
 have x3:=x2.of3 hsn hs2 (fun q=>nofun) le3 t3;have h3:=x.h3;refine ⟨s3,a',b',fun o st'' h=>?_,x3,?_,hs3,hi2.le le3 (by first | omega | (simp;omega)),hl2.le le3 (by first | omega | (simp;omega))⟩
 ·refine ZdM (st1:=s1) (st3:=s2) (st4:=s3) (fun ro=>Z0W hit hl hv) rfl (ZH (ξ:=ZD L 19) x1.fr ∅ ∅ (Zfo _ _ _)).L ?_ h;refine Ya (Zem (d:=false) (ZdQ (d:=true) (Zdc rfl (ZdG (fv:=.old 606) rfl rfl rfl (Zf (v:=.old 606) ∅ ∅ ∅ ∅).L (Z9o (v:=.ref s) (JV x2.fr ∅ Z5P ∅ _).L (Z9o (v:=.int N) (JV x2.fr ∅ Zca ∅ _).L ZaZ)) r3))) Z51) Z51
 ·have q (M:List Nat) (h:∀ m∈M,m∈s::it::laM L j3 j8) {u v:St} (k:Le M u v):Le (s::it::laM L j3 j8) u v:=k.sub h;exact ((q [it] (by simp) le1).trans (q [L] (by simp [laM]) le2)).trans (q [s,j3] (by simp [laM]) le3)
theorem Z7y {d:Int}(H:∀ n,n<t→JA (k+n))(h:0≤d∧d<t):∃ N:Nat,((k:Int)+d)=N∧JA N :=
 xE (eq_ofNat_of_zero_le h.1) fun n e=>by subst e;exact ⟨k+n,rfl,H n (Int.ofNat_lt.mp h.2)⟩
theorem Zct (hn:Yg nt)(x:Lx st sc L j3 j8 ps3 q3 ps8 q8 xs (laF sc (some u) (some (.ref s)) m none none))(hs:Has st s (.src a b []))(hsn:L+4≤s) :
  ∃ (st':St) (m':MV),Zd (Z1 nt orc) (.st (lbS 1) (ZD L 19)) st .nx st'∧Lx st' sc L j3 j8 ps3 q3 ps8 q8 xs (laF sc (some u) (some (.ref s)) (some m') none none)∧Le (s::laM L j3 j8) st st':=by
 obtain ⟨s1,r1,hs1,le1⟩:=Z6u (nt:=nt) (orc:=orc) (lev:=18) (t:=4) hs (by decide) (by decide);have d1:=YV a b (t:=4) (by decide);have x1:=x.leS hsn hs (fun q=>nofun) le1;obtain ⟨s2,r2,hs2,le2⟩:=Z6u (nt:=nt) (orc:=orc) (lev:=18) (t:=2) hs1 (by decide) (by decide);have d2:=YV (nxA a 4) (nxB a b) (t:=2) (by decide);have x2:=x1.leS hsn hs1 (fun q=>nofun) le2
 obtain ⟨N1,e1,m1⟩:=Z7y (show ∀ n,n<4→JA (1+n) by unfold JA;decide) d1;obtain ⟨N2,e2,m2⟩:=Z7y (show ∀ n,n<2→JA (8+n) by unfold JA;decide) d2
 let vs:List MV:=[.int N1,.int N2]
 let s3:=s2.push (.list vs)
 let s4:=s3.push (.itList s2.n 0)
 have x3:Lx s3 sc L j3 j8 ps3 q3 ps8 q8 xs _:=x2.le0 Le.push;have x4:Lx s4 sc L j3 j8 ps3 q3 ps8 q8 xs _:=x3.le0 Le.push;have hn2:=x2.n;obtain ⟨s5,a5,b5,f5,x5,le5,hs5,hi5,hl5⟩:=(Z9d (nt:=nt) (orc:=orc) hn (it:=s3.n) (l:=s2.n) (k:=0) (N:=N1) (vs:=vs) x4 hs2.push.push hsn Has.new (by show L+4≤s2.n+1;omega) (Has.new:Has s3 s2.n (.list vs)).push hn2 rfl m1)
 obtain ⟨s6,a6,b6,f6,x6,le6,hs6,hi6,hl6⟩:=Z9d (nt:=nt) (orc:=orc) hn (it:=s3.n) (l:=s2.n) (k:=1) (N:=N2) (vs:=vs) x5 hs5 hsn hi5 (by show L+4≤s2.n+1;omega) hl5 hn2 rfl m2;have n3:s2.n+1=s3.n:=rfl;have x7:=x6.leS (show L+4≤s3.n by omega) hi6 (fun q=>nofun) (st1:=s6.del s3.n) (Le.del (by simp));refine ⟨s6.del s3.n,.int N2,ZeC (a:=.ref s2.n) (i:=s3.n) (st1:=s3) (st2:=s4) rfl (Run.L (YW (xs:=vs) rfl (Zb (v:=.int N1) (st1:=s1) ?_ (Z9 (v:=.int N2) ?_)) (by show 2≤1000000;decide))) (fun ro=>QN Has.new) (f5 _ _ (f6 _ _ (Z5o fun ro=>Z1l hi6 hl6 (by show 2≤2;decide)))),x7,?_⟩
 ·rw [← e1];exact Yd (a:=.int 1) (b:=.int (dr a b 4)) (Z4 rfl) (Zp rfl rfl rfl (Zf (v:=.old 556) ∅ ∅ ∅ ∅) (Zb (JV x.fr ∅ Z5P ∅ _) (Z9 (Z4 rfl))) r1) fun ro=>rfl
 ·rw [← e2];exact Yd (a:=.int 8) (b:=.int (dr (nxA a 4) (nxB a b) 2)) (Z4 rfl) (Zp rfl rfl rfl (Zf (v:=.old 556) ∅ ∅ ∅ ∅) (Zb (JV x1.fr ∅ Z5P ∅ _) (Z9 (Z4 rfl))) r2) fun ro=>rfl
 ·have q0:Le [s] st s4:=((le1.trans le2).trans Le.push).trans Le.push;have q1:Le (s::s3.n::laM L j3 j8) s4 (s6.del s3.n):=(le5.trans le6).trans (Le.del (by simp));have n1:=le1.1;have n2:=le2.1;have q2:Le (s::laM L j3 j8) st s4:=q0.sub (by simp);refine q2.then q1 fun m hm=>?_;rcases W0i hm with rfl | hm
  ·exact .inl (by simp)
  ·rcases W0i hm with rfl | hm
   ·exact .inr (by omega)
   ·exact .inl (W0e _ hm)
end
noncomputable def ZjO:List (Str×MV):=[("spreadMethod",.str "mirror"),("gradientUnits",.str "box")]
structure Rw (st:St)(L n m:Nat):Prop where
 hn:L+4≤n
 hm:n+5≤m
 cl:Has st (L+2) (.cell (some (.ref (n+4))))
 r:Has st (n+4) (.list [.ref (n+2)])
 e:Has st (n+2) (.inst 501 (n+1))
 d:Has st (n+1) (elD "linearGradient" n (m+4))
 a:Has st n (.dict ZjO)
 ch:Has st (m+4) (.list [.ref (m+2)])
 nc:XK st (m+2) m (m+3) (m+1)
noncomputable def Zkv:Expr→Expr | .List (e::_) _=>e | e=>e
noncomputable def ZlX:Expr→Expr | .List (_::e::_) _=>e | e=>e
noncomputable def ZlF:Stmt→Expr
 | .If (.Compare e _ _ _) _ _ _=>e
 | _=>.Name "" ⟨0,0,0,0⟩
def an0:Expr:=Zkv (ZlF (lbS 4))
def an1:Expr:=ZlX (ZlF (lbS 4))
def an2:Expr:=ZlF (lbS 5)
section
variable {T:Tab}{nt:List Stmt}{orc:Orc}{st st' st1 st2:St}{ξ:Z3}{sc L j3 j8 n m:Nat}{ps3 ps8:Array Value}{q3 q8:Str}{xs:List Int}{F F':List (Str×MV)}
theorem Rw.le (w:Rw st L n m)(k:Le M st st1)(hM:∀ i∈M,i<L):Rw st1 L n m:=by
 have h1:=w.hn;have h2:=w.hm;have ok:∀ u,L≤u→u∉M:=fun u hu q=>by have:=hM u q;omega
 exact ⟨h1,h2,w.cl.le k (ok _ (by omega)),w.r.le k (ok _ (by omega)),w.e.le k (ok _ (by omega)),w.d.le k (ok _ (by omega)),w.a.le k (ok _ (by omega)),w.ch.le k (ok _ (by omega)),⟨w.nc.ka.le k (ok _ (by omega)),W00 w.nc.kc k.1,w.nc.kd.le k (ok _ (by omega)),w.nc.ke.le k (ok _ (by omega))⟩⟩
theorem ZcW {s m:Option MV}{k:Nat}(x:Lx st sc L j3 j8 ps3 q3 ps8 q8 xs (laF sc (some (.int k)) s m none none))(h:Shp k0 s m)(hz:xs.length≤1000)(hk:k<2) :
  ∃ (st':St) (l:Nat) (a b:Int),Zn sc xs (Z1 nt orc) (.st (lbS 0) (ZD L 19)) st .nx st'∧Lx st' sc L j3 j8 ps3 q3 ps8 q8 xs (laF sc (some (.int k)) (some (.ref l)) m none none)∧Le [L] st st'∧Has st' l (.src a b [])∧st.n≤l:=by
 obtain ⟨s1,l,a,b,r1,le1,hl,hn⟩:=Zac (nt:=nt) (orc:=orc) (lev:=18) x.hsc hz hk;have x1:=x.le0 le1;have:=x.n;exact ⟨s1.put L (.frame (laF sc (some (.int k)) (some (.ref l)) m none none)),l,a,b,ZcJ (a:=.ref l) rfl (Z2h rfl rfl rfl (Zf (v:=.old 549) ∅ ∅ ∅ ∅).S (Zb (v:=.ref sc) (JV x.fr ∅ Zb4 ∅ _) (Z9 (v:=.int k) (JV x.fr ∅ Zcx ∅ _))).S r1) (ZH (ξ:=ZD L 19) x1.fr ∅ ∅ (Zey h _ _)).S,x1.put,le1.of0.trans (Le.put (by simp)),hl.put (by omega),hn⟩
def XM:Z3:=⟨laR.sc,0,[("table",3),("rows",2),("nine",1)],laR.code,ZU laR.qual,19⟩
theorem Zat (nt:List Stmt):ZM (Z1 nt Y7) 300 (.ex (Jj (lbS 2)) XM) [none,none,none,none] 4 [4,5,6,8,9] (.v (.ref 9)) 10 [none,none,none,none] [some (.dict ZjO),some (elD "linearGradient" 4 8),some (.inst 501 5),some (.list []),some (.list [.ref 6])]:=⟨∅,∅⟩
def ZlM:List (Option MObj):=[none,none,some (.cell (some (.ref 4))),none,some (.list [.ref 5]),some (.inst 501 6),some (elD "linearGradient" 7 8),none,none]
def ZlS:List (Option MObj):=[none,none,some (.cell (some (.ref 4))),none,some (.list [.ref 5]),some (.inst 501 6),some (elD "linearGradient" 7 14),none,none]
theorem Zde (nt:List Stmt):ZM (Z1 nt Y7) 300 (.st (lbS 3) XM) ZlM 9 [9,10,11,13,14] .nx 15 ZlS [some (.dict [("stop-color",.str "none")]),some (elD "stop" 9 13),some (.inst 501 10),some (.list []),some (.list [.ref 11])]:=⟨∅,∅⟩
theorem ZbW (x:Lx st sc L j3 j8 ps3 q3 ps8 q8 xs F) :
  ∃ (st':St) (n m:Nat),Run (Z1 nt orc) (.sts [lbS 2,lbS 3] (ZD L 19)) st .nx st'∧Lx st' sc L j3 j8 ps3 q3 ps8 q8 xs F∧Le [L+2] st st'∧Rw st' L n m:=by
 have hn:=x.n;have hfit:ZG st (idx [L,L+1,L+2,L+3]) [L,L+1,L+2,L+3] [none,none,none,none]:=⟨by omega,by omega,by omega,by omega,trivial⟩;obtain ⟨s1,m1,ran⟩:=Qn noG (st:=st) (fl:=[L,L+1,L+2,L+3]) (Zat nt) rfl hfit (by simp [Zj])
 let n:=st.n
 have le1:Le [] st s1:=ran.le;have x1:=x.le0 le1;obtain ⟨o2,c2⟩:=x1.c2
 let s2:=s1.put (L+2) (.cell (some (.ref (n+4))))
 have x2:Lx s2 sc L j3 j8 ps3 q3 ps8 q8 xs F:=x1.cell (i:=2) (.inr (.inl rfl));have mv:∀ {i:Nat} {o:MObj},Has s1 i o→n≤i→Has s2 i o:=fun h q=>h.put (by omega);have k0:Has s2 n (.dict ZjO):=mv (ran.new 0 _ rfl) (by omega);have k1:Has s2 (n+1) (elD "linearGradient" n (n+3)):=mv (ran.new 1 _ rfl) (by omega);have k2:Has s2 (n+2) (.inst 501 (n+1)):=mv (ran.new 2 _ rfl) (by omega)
 have k3:Has s2 (n+3) (.list []):=mv (ran.new 3 _ rfl) (by omega);have k4:Has s2 (n+4) (.list [.ref (n+2)]):=mv (ran.new 4 _ rfl) (by omega);have kc:Has s2 (L+2) (.cell (some (.ref (n+4)))):=Has.put_same c2.1;have le2:Le [L+2] st s2:=le1.of0.trans (Le.put (by simp));have R2:Run (Z1 nt orc) (.st (lbS 2) (ZD L 19)) st .nx s2:=Y3 (a:=.ref (n+4)) rfl (Yo m1) (Z19 (ξ:=ZD L 19) ∅ ∅ ∅ c2)
 have hfit2:ZG s2 (idx [L,L+1,L+2,L+3,n+4,n+2,n+1,n,n+3]) [L,L+1,L+2,L+3,n+4,n+2,n+1,n,n+3] ZlM:=⟨x2.fr.1,xE x2.c1 fun u0 h=>h.1,kc,xE x2.c3 fun u0 h=>h.1,k4,k2,k1,k0.1,k3.1,trivial⟩;have hnd2:(Zj [L,L+1,L+2,L+3,n+4,n+2,n+1,n,n+3] ZlM).Nodup:=by
  show [L+2,n+4,n+2,n+1].Nodup
  first | omega | (simp only [nodup_cons,mem_cons,not_mem_nil,or_false,not_or,not_false_eq_true,nodup_nil,and_true]; omega)
 obtain ⟨s3,m3,ran3⟩:=Z9N noG (st:=s2) (fl:=[L,L+1,L+2,L+3,n+4,n+2,n+1,n,n+3]) (Zde nt) rfl hfit2 hnd2;have le3:Le [n+1] s2 s3:=ran3.keeps hfit2 hnd2 ∅ fun i o hi=>by
  match i,hi with
  | 0,hi=>exact .inl hi
  | 1,hi=>exact .inl hi
  | 2,hi=>exact .inl hi
  | 3,hi=>exact .inl hi
  | 4,hi=>exact .inl hi
  | 5,hi=>exact .inl hi
  | 6,_=>exact .inr (by simp)
  | 7,hi=>exact .inl hi
  | 8,hi=>exact .inl hi
  | i+9,hi=>exact .inl hi
 have x3:=x2.leS (show L+4≤n+1 by omega) k1 (fun q=>nofun) le3
 let m:=s2.n
 have hm:n+5≤m:=k4.1;have kd:Has s3 (n+1) (elD "linearGradient" n (m+4)):=ran3.old 6 _ _ rfl rfl;refine ⟨s3,n,m,ZV R2 (JP (Yo m3)),x3,le2.then le3 (by first | omega | (simp;omega)),hn,hm,kc.le1 le3 (by omega),k4.le1 le3 (by omega),k2.le1 le3 (by omega),kd,k0.le1 le3 (by omega),ran3.new 4 _ rfl,ran3.new 0 _ rfl,(ran3.new 3 _ rfl).1,ran3.new 1 _ rfl,ran3.new 2 _ rfl⟩
end
section
variable {T:Tab}{nt:List Stmt}{orc:Orc}{st st' st1 st2:St}{ξ:Z3}{sc L j3 j8 n m:Nat}{ps3 ps8:Array Value}{q3 q8:Str}{xs:List Int}{F F':List (Str×MV)}
theorem Rw.tells (w:Rw st L n m):Yp st "spreadMethod" [n+2] [some "mirror"]∧Yp st "gradientUnits" [n+2] [some "box"]:=by
 have e:El st (n+2) "linearGradient" n (m+4) ZjO:=⟨n+1,w.e,w.d,w.a⟩;exact ⟨⟨⟨_,_,_,_,e,∅⟩,trivial⟩,⟨⟨_,_,_,_,e,∅⟩,trivial⟩⟩
theorem Z7G:eqv T st 8 (.str x) (.str x)=some true:=by
 show some (seq x x)=_
 rw [Z37,decide_eq_true rfl]
theorem ZcL (h1:Zd T (.sts l1 ξ) st .nx st1)(h2:Zd T (.sts l2 ξ) st1 o st'):Zd T (.sts (l1++l2) ξ) st o st':=by
 intro c W A ρ env s E r e0 R;refine Z4E (Jb (h1 c W) r e0 R fun f s1 ρ1 g1 n1 R1 hf e1=>?_)
 cases hf
 exact Jb (h2 c W) r e1 R1 fun f s2 ρ2 g2 n2 R2 hf e2=>⟨ρ2,g1.trans g2 n1,W01 n1 n2,R2,hf⟩
theorem Zb8 (x:Lx st sc L j3 j8 ps3 q3 ps8 q8 xs F)(w:Rw st L n m) :
  ∃ st',Zd (Z1 nt orc) (.ex an0 (ZD L 19)) st (.v (.str "sheet")) st'∧Le [j8] st st'∧Tb st' j8 608 ps8 q8 laQ:=by
 have h8:=x.h8;refine Z1h (C:=77) (lev:=17) (cs:=[("rows",L+2)]) (.inr rfl) (fun c h=>h.l608) rfl rfl (fun ro=>Z1s ∅ ∅ ∅ ∅) ∅ x.t8 ∅ ∅ ∅ ∅ ∅ fun s1 le1=>?_;have w1:=w.le le1 (by simp;exact h8)
 let s2:=(s1.gap 2).push (.frame [])
 have le2:Le [] s1 s2:=Le.gap.trans Le.push;have w2:=w1.le le2 (by simp);obtain ⟨s3,r3,le3⟩:=Z5x (nt:=nt) (orc:=orc) (lev:=14) (es:=[n+2]) w2.r w2.tells.1 rfl;refine ⟨s3,le2.trans le3,fun cv=>?_⟩;exact XF rfl rfl rfl (Zf (v:=.old 461) ∅ ∅ ∅ ∅) (Z9 (Qm (j:=L+2) ∅ ∅ ∅ ∅ w2.cl ∅)) r3
theorem Zcr (x:Lx st sc L j3 j8 ps3 q3 ps8 q8 xs F)(w:Rw st L n m) :
  ∃ st',Zd (Z1 nt orc) (.ex an1 (ZD L 19)) st (.v (.str "sheet")) st'∧Le [j8] st st'∧Tb st' j8 608 ps8 q8 laQ:=by
 have h8:=x.h8;refine Z1h (C:=77) (lev:=17) (cs:=[("rows",L+2)]) (.inr rfl) (fun c h=>h.l608) rfl rfl (fun ro=>Z1s ∅ ∅ ∅ ∅) ∅ x.t8 ∅ ∅ ∅ ∅ ∅ fun s1 le1=>?_;have w1:=w.le le1 (by simp;exact h8)
 let s2:=(s1.gap 2).push (.frame [])
 have le2:Le [] s1 s2:=Le.gap.trans Le.push;have w2:=w1.le le2 (by simp);obtain ⟨s3,r3,le3⟩:=Zag (nt:=nt) (orc:=orc) (lev:=14) (es:=[n+2]) w2.r w2.tells.2 rfl;refine ⟨s3,le2.trans le3,fun cv=>?_⟩;exact XF rfl rfl rfl (Zf (v:=.old 469) ∅ ∅ ∅ ∅) (Z9 (Qm (j:=L+2) ∅ ∅ ∅ ∅ w2.cl ∅)) r3
theorem Zbr (x:Lx st sc L j3 j8 ps3 q3 ps8 q8 xs F)(w:Rw st L n m) :
  ∃ st',Zd (Z1 nt orc) (.ex an2 (ZD L 19)) st (.v (.str "sheet")) st'∧Le [j8] st st'∧Tb st' j8 608 ps8 q8 laQ:=by
 have h8:=x.h8;refine Z1h (C:=77) (lev:=17) (cs:=[("rows",L+2)]) (.inr rfl) (fun c h=>h.l608) rfl rfl (fun ro=>Z1s ∅ ∅ ∅ ∅) ∅ x.t8 ∅ ∅ ∅ ∅ ∅ fun s1 le1=>?_;have w1:=w.le le1 (by simp;exact h8)
 let s2:=(s1.gap 2).push (.frame [])
 have le2:Le [] s1 s2:=Le.gap.trans Le.push;have w2:=w1.le le2 (by simp);obtain ⟨s3,r3,le3,lk3⟩:=Z1Q (nt:=nt) (orc:=orc) (st:=s2) (lev:=17) (by decide);have w3:=w2.le le3 (by simp);have b:=w2.ch.1;have el:El s3 (n+2) "linearGradient" n (m+4) ZjO:=⟨n+1,w3.e,w3.d,w3.a⟩;obtain ⟨s4,r4,le4⟩:=Z7g (nt:=nt) (orc:=orc) (lev:=16) w3.r el w3.ch w3.nc lk3 (by omega) (by omega) (by omega) (by decide)
 refine ⟨s4,(le2.trans le3).trans le4,fun cv=>?_⟩;exact XF rfl rfl rfl (Zf (v:=.old 447) ∅ ∅ ∅ ∅) (Zb (Qm (j:=L+2) ∅ ∅ ∅ ∅ w2.cl ∅) (Z9 (Zp rfl rfl rfl (Zf (v:=.old 414) ∅ ∅ ∅ ∅) YX r3))) r4
theorem ZcC (x:Lx st sc L j3 j8 ps3 q3 ps8 q8 xs F)(w:Rw st L n m) :
  ∃ st',Zd (Z1 nt orc) (.sts [lbS 4,lbS 5] (ZD L 19)) st .nx st'∧Le [j8] st st'∧Lx st' sc L j3 j8 ps3 q3 ps8 q8 xs F:=by
 have h8:=x.h8;have hM:∀ i∈[j8],i<L:=by simp;exact h8
 obtain ⟨s1,r1,le1,t1⟩:=Zb8 (nt:=nt) (orc:=orc) x w;have x1:=x.of8 le1 t1;have w1:=w.le le1 hM;obtain ⟨s2,r2,le2,t2⟩:=Zcr (nt:=nt) (orc:=orc) x1 w1;have x2:=x1.of8 le2 t2;have w2:=w1.le le2 hM
 let l2:List MV:=[.str "sheet",.str "sheet"]
 let s3:=s2.push (.list l2)
 let s4:=s3.push (.list l2)
 have le4:Le [] s2 s4:=Le.push.trans Le.push;have x4:=x2.le0 le4;have w4:=w2.le le4 (by simp);obtain ⟨s5,r5,le5,t5⟩:=Zbr (nt:=nt) (orc:=orc) x4 w4;have x5:=x4.of8 le5 t5;refine ⟨s5,Ya (st1:=s4) (Zem (d:=false) (ZaM (a:=.ref s2.n) (b:=.ref s3.n) rfl (Zd7 (st1:=s2) (xs:=l2) rfl (Z9o r1 (Z9o r2 ZaZ)) (by show 2≤1000000;decide)) (Run.L (YW (st1:=s3) (xs:=l2) rfl (Zb (Z4 rfl) (Z9 (Z4 rfl))) (by show 2≤1000000;decide))) (fun ro=>(Z0B (xs:=l2) (ys:=l2) (Has.new:Has s3 s2.n _).push Has.new ⟨Z7G,Z7G,trivial⟩).1)) Z51) (Ya (Zem (d:=false) (ZaM (a:=.str "sheet") (b:=.str "sheet") rfl r5 (Z4 rfl).L (fun ro=>Z3O)) Z51) Z51),((le1.trans le2).trans le4.of0).trans le5,x5⟩
theorem Zaf (hn:Yg nt){k:Nat}(x:Lx st sc L j3 j8 ps3 q3 ps8 q8 xs (laF sc (some (.int k)) s mm none none))(h:Shp k0 s mm)(hz:xs.length≤1000)(hk:k<2) :
  ∃ (st':St) (s' m':MV),Zn sc xs (Z1 nt orc) (.sts laB (ZD L 19)) st .nx st'∧Lx st' sc L j3 j8 ps3 q3 ps8 q8 xs (laF sc (some (.int k)) (some s') (some m') none none)∧Le (laM L j3 j8) st st':=by
 have hLn:=x.n;obtain ⟨s1,l,a,b,r1,x1,le1,hl,hln⟩:=ZcW (nt:=nt) (orc:=orc) x h hz hk
 (refine xEEAA (Zct (orc:=orc) hn x1 hl (by omega)) ?_;intro s2 m' r2 x2 le2)
 obtain ⟨s3,n,m,r3,x3,le3,w3⟩:=ZbW (nt:=nt) (orc:=orc) x2;obtain ⟨s4,r4,le4,x4⟩:=ZcC (nt:=nt) (orc:=orc) x3 w3;refine ⟨s4,.ref l,m',?_,x4,?_⟩
 ·rw [Zdf];exact XJ r1 (Ya r2 (ZcL r3.L r4)).S
 ·have q1:Le (laM L j3 j8) st s2:=(le1.sub (by simp [laM])).then le2 fun i hi=>by
   rcases W0i hi with rfl | hi
   ·exact .inr hln
   ·exact .inl hi
  exact (q1.trans (le3.sub (by simp [laM]))).trans (le4.sub (by simp [laM]))
end
section
variable {T:Tab}{nt:List Stmt}{orc:Orc}{st st' st1 st2:St}{ξ:Z3}{sc L j3 j8 n m:Nat}{ps3 ps8:Array Value}{q3 q8:Str}{xs:List Int}{F F':List (Str×MV)}
theorem Z5S (hn:Yg nt){k r it:Nat}(x:Lx st sc L j3 j8 ps3 q3 ps8 q8 xs (laF sc k0 s mm none none))(h:Shp k0 s mm)(hz:xs.length≤1000)(hk:k<2)(hit:Has st it (.itRange (k:Int) (r+1) 1))(hitn:L+4≤it) :
  ∃ (st':St) (s' m':MV),(∀ (o:Out) (st'':St),Zn sc xs (Z1 nt orc) (.forl laT it laB (ZD L 19)) st' o st''→Zn sc xs (Z1 nt orc) (.forl laT it laB (ZD L 19)) st o st'')∧Lx st' sc L j3 j8 ps3 q3 ps8 q8 xs (laF sc (some (.int k)) (some s') (some m') none none)∧Le (it::laM L j3 j8) st st'∧Has st' it (.itRange ((k+1:Nat):Int) r 1):=by
 let s1:=st.put it (.itRange ((k:Int)+1) r 1)
 have le1:Le [it] st s1:=Le.put (by simp);have x1:=x.leS hitn hit (fun q=>nofun) le1
 let s2:=s1.put L (.frame (laF sc (some (.int k)) s mm none none))
 have x2:Lx s2 sc L j3 j8 ps3 q3 ps8 q8 xs (laF sc (some (.int k)) s mm none none):=x1.put;have le2:Le [L] s1 s2:=Le.put (by simp);have hi2:Has s2 it (.itRange ((k:Int)+1) r 1):=(Has.put_same hit.1).put (by omega)
 (refine xEEEAA (Zaf (orc:=orc) hn x2 h hz hk) ?_;intro s3 s' m' r3 x3 le3)
 have h3:=x.h3;have h8:=x.h8;refine ⟨s3,s',m',fun o st'' hh=>Zd1 (st1:=s1) (st3:=s2) (st4:=s3) (fun ro=>Z60 hit) rfl (ZH (ξ:=ZD L 19) x1.fr ∅ ∅ (ZeR h _)) r3 hh,x3,?_,hi2.le le3 (by simp [laM]; omega)⟩;exact ((le1.sub (by simp)).trans (le2.sub (by simp [laM]))).trans (le3.sub (by simp [laM]<;>omega))
theorem kmm (n:Nat):JY 1 (Qy 2 (n:Int))=1∨JY 1 (Qy 2 (n:Int))=2:=by
 unfold JY Qy
 split<;>split<;>omega
theorem Zdn (hn:Yg nt)(x:Lx st sc L j3 j8 ps3 q3 ps8 q8 xs (laF sc none none none none none))(hz:xs.length≤1000) :
  ∃ (st':St) (k s m:MV),Zn sc xs (Z1 nt orc) (.st (laS 0) (ZD L 19)) st .nx st'∧Lx st' sc L j3 j8 ps3 q3 ps8 q8 xs (laF sc (some k) (some s) (some m) none none)∧Le (laM L j3 j8) st st':=by
 have sh:Shp none none none:=.inl ⟨rfl,rfl,rfl⟩;have go:∀ N:Nat,N<10→JY 1 (Qy 2 (xs.length:Int))=N→(∃ (st':St) (k s m:MV),Zn sc xs (Z1 nt orc) (.forl laT (st.n+1) laB (ZD L 19)) ((st.push (.rng 0 N 1)).push (.itRange 0 N 1)) .nx st'∧Lx st' sc L j3 j8 ps3 q3 ps8 q8 xs (laF sc (some k) (some s) (some m) none none)∧Le ((st.n+1)::laM L j3 j8) ((st.push (.rng 0 N 1)).push (.itRange 0 N 1)) st')→∃ (st':St) (k s m:MV),Zn sc xs (Z1 nt orc) (.st (laS 0) (ZD L 19)) st .nx st'∧Lx st' sc L j3 j8 ps3 q3 ps8 q8 xs (laF sc (some k) (some s) (some m) none none)∧Le (laM L j3 j8) st st':=by
  intro N hN he zq;obtain ⟨st',k,s,m,h1,h2,h3⟩:=zq;refine ⟨st',k,s,m,Zft (a:=.ref st.n) (i:=st.n+1) (st1:=st.push (.rng 0 N 1)) (st2:=(st.push (.rng 0 N 1)).push (.itRange 0 N 1)) rfl ?_ (fun ro=>Z5b Has.new hN) h1,h2,?_⟩
  ·refine Z2h rfl rfl rfl (Zf (v:=.bi .range) ∅ ∅ ∅ ∅).S (Z8v (v:=.int N) (rest:=[]) ?_ YX.S) (YY fun ro=>rfl).S;rw [← he];refine Z2h rfl rfl rfl (Zf (v:=.bi .max) ∅ ∅ ∅ ∅).S (Z8v (v:=.int 1) (Z4 rfl).S (Z8v (v:=.int (Qy 2 xs.length)) ?_ YX.S)) (YY fun ro=>rfl).S;refine Z2h rfl rfl rfl (Zf (v:=.bi .min) ∅ ∅ ∅ ∅).S (Z8v (v:=.int 2) (Z4 rfl).S (Z8v (v:=.int xs.length) ?_ YX.S)) (YY fun ro=>rfl).S
   exact Z2h rfl rfl rfl (Zf (v:=.bi .len) ∅ ∅ ∅ ∅).S (Z9 (JV x.fr ∅ Zb4 ∅ _)).S (ZcH x.hsc (by omega))
  ·have q:Le (laM L j3 j8) st ((st.push (.rng 0 N 1)).push (.itRange 0 N 1)):=Le.push.trans Le.push;refine q.then h3 fun i hi=>?_;rcases W0i hi with rfl | hi
   ·exact .inr (W03 _)
   ·exact .inl hi
 have hLn:=x.n;rcases kmm xs.length with h | h
 ·refine go 1 (by decide) h ?_;have x0:=(x.le0 (st1:=st.push (.rng 0 ((1:Nat):Int) 1)) Le.push).le0 (st1:=(st.push (.rng 0 ((1:Nat):Int) 1)).push (.itRange 0 1 1)) Le.push;obtain ⟨s1,a1,b1,f1,x1,le1,hi1⟩:=(Z5S (orc:=orc) (k:=0) (r:=0) (it:=st.n+1) hn x0 sh hz (by decide) (Has.new:Has ((st.push (.rng 0 ((1:Nat):Int) 1)).push (.itRange 0 1 1)) (st.n+1) _) (by omega))
  exact ⟨s1.del (st.n+1),_,_,_,f1 _ _ (Z5o fun ro=>Z3n hi1).S,x1.leS (by omega) hi1 (fun q=>nofun) (Le.del (by simp)),le1.trans (Le.del (by simp))⟩
 ·refine go 2 (by decide) h ?_;have x0:=(x.le0 (st1:=st.push (.rng 0 ((2:Nat):Int) 1)) Le.push).le0 (st1:=(st.push (.rng 0 ((2:Nat):Int) 1)).push (.itRange 0 2 1)) Le.push;obtain ⟨s1,a1,b1,f1,x1,le1,hi1⟩:=(Z5S (orc:=orc) (k:=0) (r:=1) (it:=st.n+1) hn x0 sh hz (by decide) (Has.new:Has ((st.push (.rng 0 ((2:Nat):Int) 1)).push (.itRange 0 2 1)) (st.n+1) _) (by omega))
  obtain ⟨s2,a2,b2,f2,x2,le2,hi2⟩:=Z5S (orc:=orc) (k:=1) (r:=0) (it:=st.n+1) hn x1 (.inr ⟨_,_,_,rfl,rfl,rfl⟩) hz (by decide) hi1 (by omega);exact ⟨s2.del (st.n+1),_,_,_,f1 _ _ (f2 _ _ (Z5o fun ro=>Z3n hi2).S),x2.leS (by omega) hi2 (fun q=>nofun) (Le.del (by simp)),(le1.trans le2).trans (Le.del (by simp))⟩
end
def Jm (i:Nat):List (Str×MV):=match blt i 8 with
 | true=>[((ofString "href"),.str (Jw i))]
 | false=>[]
noncomputable def ZjL:List Nat:=[6,8,9,10,12,13,14,15,17,18,19,20,22,23,24,25,27,28,29,30,32,33,34,35,37,38,39,40,42,43,44,45,47,48,49,50,52]
def Zj1:List (Option MObj):=[some (.list [.ref 10,.ref 15,.ref 20,.ref 25,.ref 30,.ref 35,.ref 40,.ref 45,.ref 50]),some (.dict (Jm 0)),some (elD "linearGradient" 8 12),some (.inst 501 9),some (.list []),some (.dict (Jm 1)),some (elD "linearGradient" 13 17),some (.inst 501 14),some (.list []),some (.dict (Jm 2)),some (elD "linearGradient" 18 22),some (.inst 501 19),some (.list []),some (.dict (Jm 3)),some (elD "linearGradient" 23 27),some (.inst 501 24),some (.list []),some (.dict (Jm 4)),some (elD "linearGradient" 28 32),some (.inst 501 29),some (.list []),some (.dict (Jm 5)),some (elD "linearGradient" 33 37),some (.inst 501 34),some (.list []),some (.dict (Jm 6)),some (elD "linearGradient" 38 42),some (.inst 501 39),some (.list []),some (.dict (Jm 7)),some (elD "linearGradient" 43 47),some (.inst 501 44),some (.list []),some (.dict (Jm 8)),some (elD "linearGradient" 48 52),some (.inst 501 49),some (.list [])]
theorem Z9C (nt:List Stmt):ZM (Z1 nt Y7) 400 (.ex (Jj (laS 4)) XM) [none,none,none,none] 4 ZjL (.v (.ref 6)) 53 [none,none,none,none] Zj1:=⟨∅,∅⟩
noncomputable def Zjd:List (Option MObj):=[none,some (.cell (some (.ref 4))),none,none,some (.list [.ref 5,.ref 6,.ref 7,.ref 8,.ref 9,.ref 10,.ref 11,.ref 12,.ref 13]),none,none,none,none,none,none,none,none,none]
theorem Zbg (nt:List Stmt):ZM (T5 nt) 400 (.ex (Jj (laS 5)) XM) Zjd 14 [36] (.v (.ref 36)) 38 Zjd [some (.dict (Zt 0 [5,6,7,8,9,10,11,12,13]))]:=⟨∅,∅⟩
def Zkp:Expr×Expr:=match laS 6 with
 | .Return (some (.BoolOp .And [a,b] _)) _=>(a,b)
 | _=>(.Name "" ⟨0,0,0,0⟩,.Name "" ⟨0,0,0,0⟩)
def an3:Expr:=match Zkp.1 with | .Compare l _ _ _=>l | e=>e
def slE:Expr:=match Zkp.2 with | .Compare _ _ [r] _=>r | e=>e
theorem ZdL (nt:List Stmt):ZM (Z1 nt Y7) 100 (.ex slE XM) Zjd 14 [14] (.v (.ref 14)) 15 Zjd [some (.list [.ref 6,.ref 7,.ref 8,.ref 9,.ref 10,.ref 11,.ref 12,.ref 13])]:=⟨∅,∅⟩
noncomputable def YQ (n:Nat):List Nat:=[n+3+4*0,n+3+4*1,n+3+4*2,n+3+4*3,n+3+4*4,n+3+4*5,n+3+4*6,n+3+4*7,n+3+4*8]
structure Ni (st:St)(L n:Nat):Prop where
 hn:L+4≤n
 cl:Has st (L+1) (.cell (some (.ref n)))
 l:Has st n (.list ((YQ n).map .ref))
 el:∀ i,i<9→Has st (n+3+4*i) (.inst 501 (n+2+4*i))∧Has st (n+2+4*i) (elD "linearGradient" (n+1+4*i) (n+4+4*i))∧Has st (n+1+4*i) (.dict (Jm i))
structure Ta (st:St)(L n t:Nat):Prop where
 ht:L+4≤t
 cl:Has st (L+3) (.cell (some (.ref t)))
 d:Has st t (.dict (Zt 0 (YQ n)))
section
variable {T:Tab}{nt:List Stmt}{orc:Orc}{st st' st1 st2:St}{ξ:Z3}{sc L j3 j8 n m t:Nat}{ps3 ps8:Array Value}{q3 q8:Str}{xs:List Int}{F F':List (Str×MV)}
theorem Ni.le (w:Ni st L n)(k:Le M st st1)(hM:∀ i∈M,i<L∨i=L+3):Ni st1 L n:=by
 have h1:=w.hn;have ok:∀ u,L≤u→u≠L+3→u∉M:=fun u hu hu' q=>by have:=hM u q;omega
 exact ⟨h1,w.cl.le k (ok _ (by omega) (by omega)),w.l.le k (ok _ (by omega) (by omega)),fun i hi=>xAA (w.el i hi) fun a b c=>⟨a.le k (ok _ (by omega) (by omega)),b.le k (ok _ (by omega) (by omega)),c.le k (ok _ (by omega) (by omega))⟩⟩
theorem Ta.le (w:Ta st L n t)(k:Le M st st1)(hM:∀ i∈M,i<L):Ta st1 L n t:=by
 have h1:=w.ht;have ok:∀ u,L≤u→u∉M:=fun u hu q=>by have:=hM u q;omega
 exact ⟨h1,w.cl.le k (ok _ (by omega)),w.d.le k (ok _ (by omega))⟩
theorem Zav (ran:Ran st st' [L,L+1,L+2,L+3] [none,none,none,none] [none,none,none,none] Zj1 ZjL):∀ i,i<9→Has st' (st.n+3+4*i) (.inst 501 (st.n+2+4*i))∧Has st' (st.n+2+4*i) (elD "linearGradient" (st.n+1+4*i) (st.n+4+4*i))∧Has st' (st.n+1+4*i) (.dict (Jm i))
 | 0,_=>⟨ran.new 3 _ rfl,ran.new 2 _ rfl,ran.new 1 _ rfl⟩
 | 1,_=>⟨ran.new 7 _ rfl,ran.new 6 _ rfl,ran.new 5 _ rfl⟩
 | 2,_=>⟨ran.new 11 _ rfl,ran.new 10 _ rfl,ran.new 9 _ rfl⟩
 | 3,_=>⟨ran.new 15 _ rfl,ran.new 14 _ rfl,ran.new 13 _ rfl⟩
 | 4,_=>⟨ran.new 19 _ rfl,ran.new 18 _ rfl,ran.new 17 _ rfl⟩
 | 5,_=>⟨ran.new 23 _ rfl,ran.new 22 _ rfl,ran.new 21 _ rfl⟩
 | 6,_=>⟨ran.new 27 _ rfl,ran.new 26 _ rfl,ran.new 25 _ rfl⟩
 | 7,_=>⟨ran.new 31 _ rfl,ran.new 30 _ rfl,ran.new 29 _ rfl⟩
 | 8,_=>⟨ran.new 35 _ rfl,ran.new 34 _ rfl,ran.new 33 _ rfl⟩
 | i+9,h=>absurd h (by omega)
theorem ZbD (x:Lx st sc L j3 j8 ps3 q3 ps8 q8 xs F):∃ (st':St)(n:Nat),Run (Z1 nt orc) (.st (laS 4) (ZD L 19)) st .nx st'∧Lx st' sc L j3 j8 ps3 q3 ps8 q8 xs F∧Le [L+1] st st'∧Ni st' L n:=by
 have hn:=x.n;have hfit:ZG st (idx [L,L+1,L+2,L+3]) [L,L+1,L+2,L+3] [none,none,none,none]:=⟨by omega,by omega,by omega,by omega,trivial⟩;obtain ⟨s1,m1,ran⟩:=Qn noG (st:=st) (fl:=[L,L+1,L+2,L+3]) (Z9C nt) rfl hfit (by simp [Zj]);have le1:Le [] st s1:=ran.le;have x1:=x.le0 le1;obtain ⟨o1,c1⟩:=x1.c1
 let s2:=s1.put (L+1) (.cell (some (.ref st.n)))
 have x2:Lx s2 sc L j3 j8 ps3 q3 ps8 q8 xs F:=x1.cell (i:=1) (.inl rfl);have mv:∀ {i:Nat} {o:MObj},Has s1 i o→st.n≤i→Has s2 i o:=fun h q=>h.put (by omega);have kl:Has s1 st.n (.list ((YQ st.n).map .ref)):=ran.new 0 _ rfl;have els:=Zav ran;refine ⟨s2,st.n,Z4Y ∅ ∅ (Yo m1) (Z19 (ξ:=ZD L 19) ∅ ∅ ∅ c1),x2,le1.of0.trans (Le.put (by simp)),hn,Has.put_same c1.1,mv kl (W04 _),fun i hi=>?_⟩
 obtain ⟨a,b,c⟩:=els i hi;exact ⟨mv a (by omega),mv b (by omega),mv c (by omega)⟩
end
section
variable {T:Tab}{nt:List Stmt}{orc:Orc}{st st' st1 st2:St}{ξ:Z3}{sc L j3 j8 n m t:Nat}{ps3 ps8:Array Value}{q3 q8:Str}{xs:List Int}{F F':List (Str×MV)}
theorem Z5j (x:Lx st sc L j3 j8 ps3 q3 ps8 q8 xs F)(w:Ni st L n):ZG st (idx ([L,L+1,L+2,L+3,n]++YQ n)) ([L,L+1,L+2,L+3,n]++YQ n) Zjd:=by
 have hn:=x.n;have e:∀ i,i<9→n+3+4*i<st.n:=fun i hi=>(w.el i hi).1.1;exact ⟨x.fr.1,w.cl,by omega,by omega,w.l,e 0 (by decide),e 1 (by decide),e 2 (by decide),e 3 (by decide),e 4 (by decide),e 5 (by decide),e 6 (by decide),e 7 (by decide),e 8 (by decide),trivial⟩
theorem ZbM (w:Ni st L n):(Zj ([L,L+1,L+2,L+3,n]++YQ n) Zjd).Nodup:=by
 have:=w.hn
 show [L+1,n].Nodup
 first | omega | (simp only [nodup_cons,mem_cons,not_mem_nil,or_false,not_false_eq_true,nodup_nil,and_true]; omega)
theorem Z9P (x:Lx st sc L j3 j8 ps3 q3 ps8 q8 xs F)(w:Ni st L n):∃ (st':St)(t:Nat),Run (Z1 nt orc) (.st (laS 5) (ZD L 19)) st .nx st'∧Lx st' sc L j3 j8 ps3 q3 ps8 q8 xs F∧Le [L+3] st st'∧Ni st' L n∧Ta st' L n t:=by
 have hn:=x.n;have hfit:=Z5j x w;have hnd:=ZbM w;obtain ⟨s1,m1,ran⟩:=Qn (dpA nt).g (st:=st) (fl:=[L,L+1,L+2,L+3,n]++YQ n) (Zbg nt) rfl hfit hnd;have le1:Le [] st s1:=ran.keeps hfit hnd rfl fun i o hi=>.inl hi;have x1:=x.le0 le1;have w1:=w.le le1 (by simp);obtain ⟨o3,c3⟩:=x1.c3;have kd:Has s1 st.n (.dict (Zt 0 (YQ n))):=ran.new 0 _ rfl
 let s2:=s1.put (L+3) (.cell (some (.ref st.n)))
 have x2:Lx s2 sc L j3 j8 ps3 q3 ps8 q8 xs F:=x1.cell (i:=3) (.inr (.inr rfl));have le2:Le [L+3] s1 s2:=Le.put (by simp);exact ⟨s2,st.n,Y3 (a:=.ref st.n) rfl (Yo m1) (Z19 (ξ:=ZD L 19) ∅ ∅ ∅ c3),x2,le1.of0.trans le2,w1.le le2 (by simp),hn,Has.put_same c3.1,kd.put (by omega)⟩
theorem Z9t (h:i<8):Jm i=[((ofString "href"),.str (Jw i))]:=by
 unfold Jm;rw [show blt i 8=true from ble_eq_true_of_le h]
theorem Ni.nd (w:Ni st L n)(h:i<8):Nd st (n+3+4*i) (some (eT (i+1))):=by
 obtain ⟨a,b,c⟩:=w.el i (by omega);refine ⟨_,_,_,_,⟨_,a,b,c⟩,?_⟩;rw [Z9t h];refine ⟨Jw i,Z5R i h,.inl ?_⟩;unfold Z2;rw [decide_eq_true rfl]
theorem Ni.nd8 (w:Ni st L n):Nd st (n+3+4*8) none:=by
 obtain ⟨a,b,c⟩:=w.el 8 (by omega);exact ⟨_,_,_,_,⟨_,a,b,c⟩,⟨∅,∅⟩⟩
theorem Za7 (h:i<9):(YQ n)[i]?=some (n+3+4*i):=by
 match i,h with
 | 0,_=>rfl | 1,_=>rfl | 2,_=>rfl | 3,_=>rfl | 4,_=>rfl | 5,_=>rfl | 6,_=>rfl | 7,_=>rfl | 8,_=>rfl
 | i+9,h=>omega
theorem Z5e (h:i<9):Z2 (eT i) (Zt 0 (YQ n))=some (.ref (n+3+4*i)):=by
 have:=Z3g (k:=0) (Za7 (n:=n) h)
 rwa [zero_add] at this
theorem Ni.step (w:Ni st L n)(h:i<8):Zj7 st (Zt 0 (YQ n)) (fun i=>n+3+4*i) i:=⟨_,w.nd h,Z5e (by omega)⟩
theorem Z9K (w:Ni st L n):Yj st (Zt 0 (YQ n)) (n+3+4*0) ((List.range 7).map fun j=>n+3+4*(0+1+j))∧JU st (Zt 0 (YQ n)) (((n+3+4*0)::(List.range 7).map fun j=>n+3+4*(0+1+j)).getLast (by simp)) (1+((List.range 7).map fun j=>n+3+4*(0+1+j)).length) 101 :=
 ⟨Z1L (n:=fun i=>n+3+4*i) 7 0 fun j u0 h=>w.step (by omega),⟨_,w.nd (i:=7) (by decide),.inr ⟨rfl,rfl,_,Z5e (by decide)⟩⟩⟩
theorem Z8b (w:Ni st L n):Yj st (Zt 0 (YQ n)) (n+3+4*1) ((List.range 7).map fun j=>n+3+4*(1+1+j))∧Nd st (((n+3+4*1)::(List.range 7).map fun j=>n+3+4*(1+1+j)).getLast (by simp)) none :=
 ⟨Z1L (n:=fun i=>n+3+4*i) 7 1 fun j u0 h=>w.step (by omega),w.nd8⟩
theorem ZbG (x:Lx st sc L j3 j8 ps3 q3 ps8 q8 xs F)(w:Ni st L n)(z:Ta st L n t) :
  ∃ st',Zd (Z1 nt orc) (.ex an3 (ZD L 19)) st (.v (.str "limit")) st'∧Le [j8] st st'∧Tb st' j8 608 ps8 q8 laQ:=by
 have h8:=x.h8;refine Z1h (C:=101) (lev:=17) (cs:=[("table",L+3),("nine",L+1)]) (.inl rfl) (fun c h=>h.l608) rfl rfl (fun ro=>Z1s ∅ ∅ ∅ ∅) ∅ x.t8 ∅ ∅ ∅ ∅ ∅ fun s1 le1=>?_
 let s2:=(s1.gap 2).push (.frame [])
 have le2:Le [] s1 s2:=Le.gap.trans Le.push;have w2:=(w.le le1 (by simp;exact .inl h8)).le le2 (by simp);have z2:=(z.le le1 (by simp;exact h8)).le le2 (by simp);obtain ⟨h1,h2⟩:=Z9K w2;obtain ⟨s3,r3,le3⟩:=Z38 (nt:=nt) (orc:=orc) (lev:=15) (k:=101) z2.d h1 h2 (by simp);refine ⟨s3,le2.trans le3,fun cv=>?_⟩;exact XF rfl rfl rfl (Zf (v:=.old 435) ∅ ∅ ∅ ∅) (Zb (Yz (a:=.ref n) (b:=.int 0) rfl (Qm (j:=L+1) ∅ ∅ ∅ ∅ w2.cl ∅) (Z4 rfl) (Yt w2.l (JQ (i:=0) rfl (by decide)))) (Z9 (Qm (j:=L+3) ∅ ∅ ∅ ∅ z2.cl ∅))) r3
theorem Zcw (x:Lx st sc L j3 j8 ps3 q3 ps8 q8 xs F)(w:Ni st L n)(z:Ta st L n t) :
  ∃ st',Zd (Z1 nt orc) (.st (laS 6) (ZD L 19)) st (.ret (.bool true)) st'∧Le [j8] st st'∧Lx st' sc L j3 j8 ps3 q3 ps8 q8 xs F:=by
 have h8:=x.h8;obtain ⟨s1,r1,le1,t1⟩:=ZbG (nt:=nt) (orc:=orc) x w z;have x1:=x.of8 le1 t1;have w1:=w.le le1 (by simp;exact .inl h8);have z1:=z.le le1 (by simp;exact h8);obtain ⟨h1,h2⟩:=Z8b w1;obtain ⟨s2,R,r2,le2,hR,_⟩:=Z2i (nt:=nt) (orc:=orc) (lev:=17) (w1.el 1 (by decide)).1.1 z1.d h1 h2 (by simp);have x2:=x1.le0 le2;have w2:=w1.le le2 (by simp)
 obtain ⟨s3,m3,ran⟩:=Qn noG (st:=s2) (fl:=[L,L+1,L+2,L+3,n]++YQ n) (ZdL nt) rfl (Z5j x2 w2) (ZbM w2);have le3:Le [] s2 s3:=ran.keeps (Z5j x2 w2) (ZbM w2) rfl fun i o hi=>.inl hi;have hS:Has s3 s2.n (.list (((n+3+4*1)::(List.range 7).map fun j=>n+3+4*(1+1+j)).map .ref)):=ran.new 0 _ rfl;refine ⟨s3,Zc0 (Zfl (Zbe (a:=.str "limit") (b:=.str "limit") rfl r1 (Z4 rfl).L (fun ro=>Z4t)) (Run.L (Zao (a:=.ref R) (b:=.ref s2.n) (d:=true) rfl ?_ (Yo m3) (fun ro=>(Z0B (hR.le0 le3) hS (Z1Z _)).2)))),(le1.trans le2.of0).trans le3.of0,x2.le0 le3⟩
 exact Zp rfl rfl rfl (Zf (v:=.old 435) ∅ ∅ ∅ ∅) (Zb (Yz (a:=.ref n) (b:=.int 1) rfl (Ql (j:=L+1) ∅ ∅ ∅ w1.cl ∅) (Z4 rfl) (Yt w1.l (JQ (i:=1) rfl (by decide)))) (Z9 (Ql (j:=L+3) ∅ ∅ ∅ z1.cl ∅))) r2
end
noncomputable def Zlk:List (Str×MV):=[("xlink:href",.str "#e1"),("href",.str "#e0")]
theorem Zar (nt:List Stmt):ZM (Z1 nt Y7) 300 (.ex (Jj (laS 1)) XM) [none,none,none,none] 4 [4,5,6,8] (.v (.ref 6)) 9 [none,none,none,none] [some (.dict Zlk),some (elD "linearGradient" 4 8),some (.inst 501 5),some (.list [])]:=⟨∅,∅⟩
theorem Zah (nt:List Stmt):ZM (Z1 nt Y7) 300 (.ex (Jj (laS 2)) XM) [none,none,none,none] 4 [4,5,6,7,9,10,11,12,14] (.v (.ref 4)) 15 [none,none,none,none] [some (.dict [("e0",.ref 7),("e1",.ref 12)]),some (.dict []),some (elD "a" 5 9),some (.inst 501 6),some (.list []),some (.dict []),some (elD "b" 10 14),some (.inst 501 11),some (.list [])]:=⟨∅,∅⟩
theorem ZeF:Zh "both" v (laF sc (some a) (some b) (some c) none none)=laF sc (some a) (some b) (some c) (some v) none:=∅
theorem ZeE:Zh "ends" v (laF sc (some a) (some b) (some c) (some d) none)=laF sc (some a) (some b) (some c) (some d) (some v):=∅
theorem ZaA:Z2 "both" (laF sc (some a) (some b) (some c) (some v) e)=some v:=∅
theorem ZaT:Z2 "ends" (laF sc (some a) (some b) (some c) (some d) (some v))=some v:=∅
section
variable {T:Tab}{nt:List Stmt}{orc:Orc}{st st' st1 st2:St}{ξ:Z3}{sc L j3 j8 n m t:Nat}{ps3 ps8:Array Value}{q3 q8:Str}{xs:List Int}{F F':List (Str×MV)}
theorem Zcs (x:Lx st sc L j3 j8 ps3 q3 ps8 q8 xs (laF sc (some a) (some b) (some c) none none)) :
  ∃ (st':St) (F:List (Str×MV)),Run (Z1 nt orc) (.sts [laS 1,laS 2,laS 3] (ZD L 19)) st .nx st'∧Lx st' sc L j3 j8 ps3 q3 ps8 q8 xs F∧Le [L] st st':=by
 have fit:∀ {sx:St},L+4≤sx.n→ZG sx (idx [L,L+1,L+2,L+3]) [L,L+1,L+2,L+3] [none,none,none,none]:=fun h=>⟨by omega,by omega,by omega,by omega,trivial⟩;obtain ⟨s1,m1,ran1⟩:=Qn noG (st:=st) (fl:=[L,L+1,L+2,L+3]) (Zar nt) rfl (fit x.n) (by simp [Zj]);have le1:Le [] st s1:=ran1.le;have x1:=x.le0 le1
 let n1:=st.n
 have hn1:=x.n;have a0:Has s1 n1 (.dict Zlk):=ran1.new 0 _ rfl;have a1:Has s1 (n1+1) (elD "linearGradient" n1 (n1+3)):=ran1.new 1 _ rfl;have a2:Has s1 (n1+2) (.inst 501 (n1+1)):=ran1.new 2 _ rfl
 let s2:=s1.put L (.frame (laF sc (some a) (some b) (some c) (some (.ref (n1+2))) none))
 have x2:Lx s2 sc L j3 j8 ps3 q3 ps8 q8 xs _:=x1.put;have le2:Le [L] s1 s2:=Le.put (by simp);obtain ⟨s3,m3,ran3⟩:=Qn noG (st:=s2) (fl:=[L,L+1,L+2,L+3]) (Zah nt) rfl (fit x2.n) (by simp [Zj]);have le3:Le [] s2 s3:=ran3.le;have x3:=x2.le0 le3
 let n2:=s2.n
 have hn2:=x2.n;have b0:Has s3 n2 (.dict [("e0",.ref (n2+3)),("e1",.ref (n2+7))]):=ran3.new 0 _ rfl;have b1:Has s3 (n2+1) (.dict []):=ran3.new 1 _ rfl;have b2:Has s3 (n2+2) (elD "a" (n2+1) (n2+4)):=ran3.new 2 _ rfl;have b3:Has s3 (n2+3) (.inst 501 (n2+2)):=ran3.new 3 _ rfl
 let s4:=s3.put L (.frame (laF sc (some a) (some b) (some c) (some (.ref (n1+2))) (some (.ref n2))))
 have x4:Lx s4 sc L j3 j8 ps3 q3 ps8 q8 xs _:=x3.put;have le4:Le [L] s3 s4:=Le.put (by simp);have up:∀ {i:Nat} {o:MObj},Has s1 i o→n1≤i→Has s4 i o:=fun h q=>((h.le1 le2 (by omega)).le0 le3).le1 le4 (by omega);have N1:Nd s4 (n1+2) (some "e0"):=⟨_,_,_,_,⟨_,up a2 (by omega),up a1 (by omega),up a0 (by omega)⟩,ofString "#e0",by unfold lnkTab;simp,.inl ∅⟩;have N2:Nd s4 (n2+3) none:=⟨_,_,_,_,⟨_,b3.le1 le4 (by omega),b2.le1 le4 (by omega),b1.le1 le4 (by omega)⟩,∅,∅⟩
 have I4:Has s4 n2 (.dict [("e0",.ref (n2+3)),("e1",.ref (n2+7))]):=b0.le1 le4 (by omega);obtain ⟨s5,R,r5,le5,hR,_⟩:=Z2i (nt:=nt) (orc:=orc) (lev:=17) (e:=n1+2) (rest:=[n2+3]) (up a2 (by omega)).1 I4 ⟨⟨_,N1,∅⟩,trivial⟩ N2 (by simp);have x5:=x4.le0 le5
 let s6:=s5.push (.list [.ref (n1+2),.ref (n2+3)])
 have x6:Lx s6 sc L j3 j8 ps3 q3 ps8 q8 xs _:=x5.le0 Le.push;have tst:Run (Z1 nt orc) (.tst (ifT (laS 3)) (ZD L 19)) s4 (.b false) s6:=by
  refine ZJ (a:=.ref R) (b:=.ref s5.n) rfl (Zp rfl rfl rfl (Zf (v:=.old 435) ∅ ∅ ∅ ∅) (Zb (JV x4.fr ∅ ZaA ∅ _) (Z9 (JV x4.fr ∅ ZaT ∅ _))) r5) (YW (xs:=[.ref (n1+2),.ref (n2+3)]) rfl (Zb (JV x5.fr ∅ ZaA ∅ _) (Z9 (Yz (a:=.ref n2) (b:=.str "e0") rfl (JV x5.fr ∅ ZaT ∅ _) (Z4 rfl) (fun ro=>?_)))) (by show 2≤1000000;decide)) (fun ro=>(Z0B (xs:=[n1+2,n2+3].map .ref) (ys:=[n1+2,n2+3].map .ref) hR.push Has.new (Z1Z _)).1)
  refine (Z4a ((I4.le0 le5).rd _)).trans ?_
  kernel_rfl
 refine ⟨s6,_,ZV (st1:=s2) (Y3 (a:=.ref (n1+2)) rfl (Yo m1) (ZH (ξ:=ZD L 19) x1.fr ∅ ∅ ZeF)) (ZV (st1:=s4) (Y3 (a:=.ref n2) rfl (Yo m3) (ZH (ξ:=ZD L 19) x3.fr ∅ ∅ ZeE)) (JP (Y8 (d:=false) tst Ye))),x6,?_⟩;exact ((((le1.of0.trans le2).trans le3.of0).trans le4).trans le5.of0).trans Le.push
theorem Zce (hn:Yg nt)(hsc:Yk st sc)(hz:xs.length≤1000)(t3:Tb st j3 603 ps3 q3 riQ)(t8:Tb st j8 608 ps8 q8 laQ) :
  ∃ (st':St),Zn sc xs (Z1 nt orc) (.call (.old 611) [.ref sc] 20) st (.v (.bool true)) st'∧Le [j3,j8] st st'∧Tb st' j3 603 ps3 q3 riQ∧Tb st' j8 608 ps8 q8 laQ:=by
 obtain ⟨s0,e0,n0,le0,f0,c1,c2,c3⟩:=Z9L (st:=st) (lev:=19) (u:=.ref sc);have h3:j3<st.n:=xEA t3 fun u0 h u0=>h.1;have h8:j8<st.n:=xEA t8 fun u0 h u0=>h.1;have x0:Lx s0 sc st.n j3 j8 ps3 q3 ps8 q8 xs (laF sc none none none none none):=⟨hsc.le0 le0,f0,⟨_,c1⟩,⟨_,c2⟩,⟨_,c3⟩,t3.le0 le0,t8.le0 le0,hsc.1,h3,h8⟩;obtain ⟨s1,k,s,m,r1,x1,le1⟩:=Zdn (orc:=orc) hn x0 hz
 obtain ⟨s2,F2,r2,x2,le2⟩:=Zcs (nt:=nt) (orc:=orc) x1;obtain ⟨s3,n,r3,x3,le3,w3⟩:=ZbD (nt:=nt) (orc:=orc) x2;obtain ⟨s4,t,r4,x4,le4,w4,z4⟩:=Z9P (nt:=nt) (orc:=orc) x3 w3;obtain ⟨s5,r5,le5,x5⟩:=Zcw (nt:=nt) (orc:=orc) x4 w4 z4;refine ⟨s5,Zg8 (r:=laR) (o:=.ret (.bool true)) rfl rfl e0 ?_ rfl,?_,x5.t3,x5.t8⟩
 ·rw [Zec];exact XJ r1 (ZcL (l1:=[laS 1,laS 2,laS 3]) r2.L (Ya r3.L (Ya r4.L (Z6l r5)))).S
 ·have q:Le (laM st.n j3 j8) s0 s5:=(((le1.trans (le2.sub (by simp [laM]))).trans (le3.sub (by simp [laM]))).trans (le4.sub (by simp [laM]))).trans (le5.sub (by simp [laM]));have q0:Le [j3,j8] st s0:=le0.of0;refine q0.then q fun i hi=>?_;simp only [laM,mem_cons,not_mem_nil,or_false] at hi;rcases hi with rfl | rfl | rfl | rfl | rfl | rfl
  ·exact .inr (W04 _)
  ·exact .inr (by omega)
  ·exact .inr (by omega)
  ·exact .inr (by omega)
  ·exact .inl (by simp)
  ·exact .inl (by simp)
end
end Mine
section
open PySem.W.X PySem.W.ZRun
namespace Mine
theorem Z11 {f:Nat→Bool}:∀ {K:Frag}{a:Addr}{o:Obj},(K.filter fun p=>f p.1).lookup a=some o→K.lookup a=some o∧f a=true
 | [],a,o,h=>by cases h
 | (b,x)::r,a,o,h=>by
  rw [List.filter_cons] at h;by_cases q:a=b
  ·subst q
   cases hf:f a with
   | true =>
    rw [if_pos hf,List.lookup_cons_self] at h;exact ⟨by rw [List.lookup_cons_self]; exact h,rfl⟩
   | false =>
    rw [if_neg (by simp [hf])] at h;have:=Z11 h;rw [hf] at this;exact absurd this.2 nofun
  ·have hb:(a==b)=false:=beq_false_of_ne q;have h':(r.filter fun p=>f p.1).lookup a=some o:=by
    cases hf:f b with
    | true=>rw [if_pos hf,lookup_cons,hb] at h;exact h
    | false=>rw [if_neg (by simp [hf])] at h;exact h
   have:=Z11 h'
   exact ⟨by rw [lookup_cons,hb]; exact this.1,this.2⟩
theorem Z4N {K:Frag}(h:(ZR K).lookup a=some o):K.lookup a=some o∧a≠603∧a≠608:=by
 obtain ⟨h1,h2⟩:=Z11 (f:=fun a=>!(beq a 603)&&!(beq a 608)) h;refine ⟨h1,?_,?_⟩<;>(rintro rfl;exact absurd h2 (by decide))
structure KOk (K0:Frag):Prop where
 chk:ZiH (ZR K0)=true
 fns:(Qc (Q4 (ZR K0) 28)).map (fun p=>fnV (ZR K0) p.1)=(Qc (Q4 (ZR K0) 28)).map (fun p=>some (fnE p.2))
 nt:Yg (Q4 (ZR K0) 28)
 e1:exmOne (ZR K0) (.ref 101) (.ref 101)=some true
 e2:exmOne (ZR K0) (.ref 77) (.ref 101)=some false
 e3:exmOne (ZR K0) (.ref 77) (.ref 77)=some true
 f49:fnV (ZR K0) 49=some (fnE YJ)∧fnC (ZR K0) 49 YJ=true
 f77:∀ c:Cfg,c.K=ZR K0→Z3c c 77
 f101:∀ c:Cfg,c.K=ZR K0→Z3c c 101
 t603:K0.lookup 603=some (tabObj #[])
 t608:K0.lookup 608=some (tabObj #[])
 c603:∀ h:Heap,(ZR K0).In h→CodeHd h 605 603
 c608:∀ h:Heap,(ZR K0).In h→CodeHd h 610 608
 law:Qg (ZR K0) mainGlobals "law"=some (some (.ref 611))
 bm:Qg (ZR K0) mainGlobals "__builtins__"=some (some (.ref 4))
 old:[0,1,2,3].all (fun a=>((ZR K0).lookup a).isSome)=true
 low:(ZR K0).all (fun p=>blt p.1 612)=true
theorem ZdZ {K:Frag}(hK:K.In h)(hn:h.Ns a m)(hu:Qg K a x=some u):m x=u:=by
 obtain ⟨o,es,ep,e1,e2,_,e4⟩:=hn;refine ZaV hu ?_;intro o' es' ep' ho hd q;have:=hK _ _ ho;rw [e1] at this
 cases (W0g this)
 rw [← e4 x,(Data.dict.inj (e2.symm.trans hd)).1];exact q
theorem Z6F:∀ {vs:List Value}{ns:List Int},IntsAre vs ns→Are ρ n (ns.map .int) vs
 | _,_,.nil=>trivial
 | _,_,.cons n t h=>⟨⟨t,rfl⟩,Z6F h⟩
def Zlg (p:Program)(w:World)(K0:Frag)(h:Heap)(xs:List Int)(d:Drawn)(os:OsState):Cfg :=
 { prog:=p,w:=w,K:=ZR K0,h0:=h,U:=fun b=>(∃ o,h.get? b=some o)∧b≠603∧b≠608,F:=fun u0=>False,G:=fun u0=>False,X:=True,ro:=(mkS [some (.list (xs.map .int))]).t,d:=d,os:=os }
noncomputable def Zlh:Rho:=⟨fun i=>match i with | 0=>612 | 1=>603 | _=>608,fun u0=>0⟩
def stT:St:=mkS [none,some (.tab 603 #[] "" []),some (.tab 608 #[] "" [])]
set_option tactic.hygienic true in
theorem main (G:Ground q loose PySem.Challenge.rw_on0253_01.row.records XP w s₀ mg mb s₁.heap)(KX:K0.In s₁.heap)(ZN:s₀.heap.objs.size=612)
  (hmg:mg "law"=some (.ref fa)) (hg:s₁.gens=#[]) (L:Laid PySem.Challenge.rw_on0253_01.row.records w s₀ s₁ args vals as) (hpre:PySem.Challenge.rw_on0253_01.row.claim.pre args=true) (hlay:WData.layableAll args=true)
  (hrd:ReadsAllW PySem.Challenge.rw_on0253_01.row.records (classAt s₀.heap) s₁.heap vals args as) (hwl:WellAll w.params s₁.heap vals args) (hlo:∀ a∈as,(a==sysModules)=false) (KO:KOk K0) :
  wpAny (model PySem.Challenge.rw_on0253_01.row.prog w) callerA (call (.ref fa) vals) (fun v s'=>GoodWG PySem.Challenge.rw_on0253_01.row.claim (classAt s₀.heap) (ExcName.means s₀.heap) args s₁ (.ok (.ret v)) s') (fun e s'=>GoodWG PySem.Challenge.rw_on0253_01.row.claim (classAt s₀.heap) (ExcName.means s₀.heap) args s₁ (.error e) s') s₁:=by
 wrow_args hpre hlay hrd hwl hlo
 obtain ⟨hat,hsz⟩:=script_at L;rw [ZN] at hat hsz;subst hat;rename_i xs hs hlay0 hL1 hr1 hl2 w3 w2 vs w0 ra hI hrr hc1 hc hL w1 r0;have hobj:=script_obj L hL;have hz:xs.length≤1000:=by omega
 let c:Cfg:=Zlg PySem.Challenge.rw_on0253_01.row.prog w K0 s₁.heap xs s₁.drawn s₁.os
 have hK:(ZR K0).In s₁.heap:=fun a o e=>KX _ _ (Z4N e).1;have hU:∀ {a:Nat} {o:Obj},(ZR K0).lookup a=some o→c.U a:=fun e=>⟨⟨_,hK _ _ e⟩,(Z4N e).2⟩;have old:∀ a∈[0,1,2,3],c.U a:=fun a ha=>by
  obtain ⟨o,ho⟩:=Option.isSome_iff_exists.mp (all_eq_true.mp KO.old a ha);exact hU ho
 have C:c.Ok:=⟨fun a o e=>⟨hK _ _ e,hU e,id⟩,fun b h=>h.1,old 1 (by simp),G.T.nolimit,old 2 (by simp),id⟩;have W:Z5 c (Z1 (Q4 (ZR K0) 28) Y7):=ZcY C KO.fns KO.chk G.T.g G.T.b (old 3 (by simp)) (old 0 (by simp)) id id;have hfa:fa=611:=by
  have:=ZdZ hK G.T.g KO.law
  rw [hmg] at this
  cases this
  rfl
 subst hfa;have hbm:=ZdZ hK G.T.g KO.bm;have built:∃ mg,c.h0.Ns mainGlobals mg∧c.U mainGlobals∧¬ c.F mainGlobals∧∃ bm o,mg "__builtins__"=some (.ref bm)∧bm≠builtinsNs∧bm≠mainGlobals∧c.h0.get? bm=some o∧c.U bm∧¬ c.F bm∧o.cls = .type "module"∧o.dict=some builtinsNs∧o.data = .plain:=by
  obtain ⟨bm,ob,b1,b2,b3,b4,b5,b6⟩:=G.T.bmain;rw [hbm] at b1
  cases b1
  exact ⟨mg,G.T.g,old 3 (by simp),id,4,ob,hbm,b2,by decide,b3,⟨⟨_,b3⟩,by decide,by decide⟩,id,b4,b5,b6⟩
 have LW:QU c (Z1 (Q4 (ZR K0) 28) Y7):=⟨W,trivial,Z9m KO.f49.1 KO.f49.2,KO.f77 c rfl,KO.f101 c rfl,KO.e1,KO.e2,KO.e3,⟨built,KO.c603⟩,⟨built,KO.c608⟩⟩;have g0:∀ j,stT.get j=(([none,some (.tab 603 #[] "" []),some (.tab 608 #[] "" [])]:List (Option MObj))[j]?).join:=Z4o _;have tabAt:∀ {i P:Nat} {q0:Str},Zlh.a i=P→s₁.heap.get? P=some (tabObj #[])→At c Zlh 3 s₁.heap i (.tab P #[] q0 []):=fun h1 h2=>⟨h1,⟨#[],by rw [h1]; exact h2,trivial,fun pos=>rfl⟩,fun p hp=>by cases hp⟩
 have k3:=KX _ _ KO.t603;have k8:=KX _ _ KO.t608;have R:Rel c Zlh stT s₁:=by
  refine ⟨fun L h=>h.elim,fun i o e=>?_,fun i j oi oj ei ej hij=>?_,fun i o e=>?_,fun b o e u0=>.inl e,hg,rfl,rfl⟩
  ·rw [g0] at e
   match i,e with
   | 1,e=>cases e;exact ⟨by decide,tabAt rfl k3,fun h=>h.2.1 rfl⟩
   | 2,e=>cases e;exact ⟨by decide,tabAt rfl k8,fun h=>h.2.2 rfl⟩
   | 0,e=>cases e
   | i+3,e=>cases e
  ·rw [g0] at ei ej
   match i,j,ei,ej,hij with
   | 1,1,_,_,_=>rfl
   | 2,2,_,_,_=>rfl
   | 1,2,_,_,h=>cases h
   | 2,1,_,_,h=>cases h
   | 0,_,e,_,_=>cases e
   | _,0,_,e,_=>cases e
   | i+3,_,e,_,_=>cases e
   | _,j+3,_,e,_=>cases e
  ·have e:(mkS [some (MObj.list (xs.map .int))]).get i=some o:=e;rw [Z4o] at e
   match i,e with
   | 0,e =>
    cases e
    exact ⟨by decide,⟨vs.toArray,_,hobj,by show Are Zlh 3 (xs.map .int) vs.toArray.toList;exact Z6F hI⟩,⟨⟨_,hobj⟩,by decide,by decide⟩,by decide⟩
   | i+1,e=>cases e
 have tb:∀ {j P:Nat},stT.get j=some (.tab P #[] "" [])→j<3→∀ q,Tb stT j P #[] "" q:=fun h1 h2 q=>⟨[],⟨h2,h1⟩,fun l k j h=>by cases h⟩
 (refine xEAAA (Zce (orc:=Y7) (st:=stT) (sc:=0) (xs:=xs) (j3:=1) (j8:=2) KO.nt ⟨by decide,by rw [g0]; rfl⟩ hz (tb (P:=603) (by rw [g0]; rfl) (by decide) _) (tb (P:=608) (by rw [g0]; rfl) (by decide) _)) ?_;intro st' r le t3 t8)
 have m:=r c LW (by show (mkS [some (MObj.list (xs.map .int))]).get 0=_;rw [Z4o]; rfl);have rm:Zg c callerA 20:=⟨rfl,by decide,by decide,fun u0=>⟨[],rfl,fun env h=>by cases h⟩⟩;refine wpAny_mono (m callerA Zlh s₁ _ (.ref 611) [.ref 612] rm R rfl ⟨⟨by decide,rfl⟩,trivial⟩) ?_ (fun e s' h=>h)
 rintro v s' ⟨ρ',ag,hn,R',hv⟩
 have hv:v = .bool true:=hv;subst hv;have grown:∀ {j P:Nat} {q:Str},Tb st' j P #[] "" q→∃ more,s'.heap.get? P=some (tabObj (#[]++more)):=fun ⟨es,h1,_⟩=>by
  (refine xAA (R'.at_ _ _ h1.2) ?_;intro _ o0 _;obtain ⟨a1,⟨more,a2,_⟩,_⟩:=o0)
  exact ⟨more,by rw [← a1]; exact a2⟩
 have tabOld:∀ {cc P:Nat} {q:Str} {j:Nat} {o:Obj},CodeHd s₁.heap cc P→s₁.heap.get? P=some (tabObj #[])→Tb st' j P #[] "" q→s₁.heap.get? P=some o→asItWas s₁.heap s'.heap P o:=fun {cc P q j o} h1 h2 h3 e=>by
  (refine xEEEEEEEE h1 ?_;(try clear h1);intro o' vs' _ _ _ _ _ _ o1;refine xEAAAA o1 ?_;clear o1;intro _ b1 b2 b3 b4 _)
  obtain ⟨more,hm⟩:=grown h3;rw [h2] at e
  cases e
  exact .inr (.inl ⟨⟨cc,o',vs',b1,b2,b3,b4⟩,rfl,#[],more,rfl,hm⟩)
 have olds:∀ b o,s₁.heap.get? b=some o→asItWas s₁.heap s'.heap b o:=fun b o e=>by
  by_cases h3:b=603
  ·subst h3;exact tabOld (KO.c603 _ hK) k3 t3 e
  ·by_cases h8:b=608
   ·subst h8;exact tabOld (KO.c608 _ hK) k8 t8 e
   ·exact .inl ((R'.keep b o e ⟨⟨o,e⟩,h3,h8⟩).solid id)
 refine ⟨.inl ⟨_,_,[],rfl,fun u0=>rfl,ReadsW.bool true,?_,fun u0=>⟨nodup_nil,fun u0 hm=>nomatch hm⟩⟩,⟨olds,fun b o e=>?_⟩,R'.os,.of_eq R'.gens⟩
 ·first | rfl | wrow_post
 ·rcases olds b o e with h | ⟨_,_,vs',more,_,h⟩ | ⟨rfl,_,⟨o',_,_,h,_⟩,_⟩
  ·exact ⟨_,h⟩
  ·exact ⟨_,h⟩
  ·exact ⟨_,h⟩
end Mine
end
set_option backward.match.sparseCases true
section
open PySem.W.X PySem.W.ZRun
namespace Mine
theorem Z3Q:∀ {l:List Obj}{k a:Nat}{o:Obj},(Zjr k l).lookup a=some o→k≤a∧l[a - k]?=some o∧o.alive=true
 | [],k,a,o,h=>by cases h
 | x::r,k,a,o,h=>by
  have step:(Zjr (k+1) r).lookup a=some o→k≤a∧(x::r)[a - k]?=some o∧o.alive=true:=fun h=>by
   have:=Z3Q h
   refine ⟨by omega,?_,this.2.2⟩;rw [show a - k=a - (k+1)+1 by omega];exact this.2.1
  unfold Zjr at h
  split at h
  ·rename_i hx;rw [lookup_cons] at h;by_cases q:a=k
   ·subst q;rw [beq_self_eq_true] at h
    cases h
    exact ⟨W04 _,by rw [Nat.sub_self]; rfl,hx⟩
   ·rw [show (a==k)=false from beq_false_of_ne q] at h;exact step h
  ·exact step h
theorem Zbj (h:Heap):(Xn h).In h:=fun a o e=>by
 have:=(Z3Q e).2
 rw [Nat.sub_zero,Array.getElem?_toList] at this;exact (Heap.get?_eq_some _ _ _).mpr this
set_option tactic.hygienic true in
theorem Z6n {K:Frag}{cc P:Nat}(h:Zk4 K cc P=true)(hc:cc≠P):∀ h:Heap,K.In h→CodeHd h cc P:=fun hp hK=>by
 unfold Zk4 kB at h
 split at h
 ·rename_i o ho;rw [and_eq_true] at h;obtain ⟨h1,h⟩:=h
  split at h
  ·rename_i vs hd;simp only [and_eq_true,decide_eq_true_eq] at h;obtain ⟨a1,a2,a3,a4,a5,a6⟩:=h;unfold Zkm at a3;unfold ZjJ at a4 a6;unfold ZjN at a5
   split at a3
   ·split at a4
    ·split at a5
     ·split at a6
      ·rename_i e1 _ _ _ e2 _ _ e3 _ _ _ e4;exact ⟨o,vs,_,_,_,_,_,_,_,hK _ _ ho,of_decide_eq_true h1,hd,a1,a2,e1,e2,e3,e4,hc⟩
      ·cases a6
     ·cases a5
    ·cases a4
   ·cases a3
  ·cases h
 ·cases h
noncomputable def Zmu:List Stmt→Nat
 | [.Return (some (.Constant _ k _)) _]=>k
 | _=>0
noncomputable def Zmt:List Stmt→Pos
 | [.Return (some (.Constant _ _ p)) _]=>p
 | _=>⟨0,0,0,0⟩
noncomputable def Zmv:List Stmt→Pos
 | [.Return _ p]=>p
 | _=>⟨0,0,0,0⟩
theorem nt1:ntB=[.Return (some (.Constant (.str s2) (Zmu ntB) (Zmt ntB))) (Zmv ntB)]:=∅
theorem Zfv {nt:List Stmt}{kd:Nat}{p1 p2:Pos}{s:Str}(h1:nt=[.Return (some (.Constant (.str s) kd p1)) p2])(h2:ntC s.cps.toList=true):Yg nt:=by
 unfold ntC at h2;simp only [and_eq_true,decide_eq_true_eq] at h2;obtain ⟨⟨⟨⟨⟨a1,a2⟩,a3⟩,a4⟩,a5⟩,a6⟩:=h2;exact ⟨kd,p1,p2,s.cps.toList,h1,W09 a1,W06 a2,fun q=>absurd a3 (by rw [q]; nofun),a4,a5,a6⟩
theorem Zfw:Yg ntB:=by
 obtain ⟨s,h1,h2⟩:=Zdz;refine Zfv nt1 ?_;unfold s2;rw [h1];exact (W0h h2).2
theorem Zdk {K0:Frag}{nt:List Stmt}(hn:Yg nt)(hB:ZlH K0=[true,true,true,true,true,true,true,true,true,true])
  (hA:Zm0 K0=(some true,some false,some true,some (some (.ref 49)),some (some (.ref 49)),some (.type "function"),some (some (.ref 611)),some (some (.ref 4))))
  (hO:ZlW K0=(some (exO "SheetFault" 77 76 68 258 266),some (exO "LimitFault" 101 100 92 290 298),some (tabObj #[]),some (tabObj #[])))
  (hF:ZlL nt K0=(nt,some (fnE YJ),(Qc nt).map (fun p=>some (fnE p.2)))):KOk K0:=by
 unfold ZlH at hB;simp only [List.cons.injEq,and_true] at hB;obtain ⟨b1,b2,b3,b4,b5,b6,b7,b8,b9,b10⟩:=hB;unfold Zm0 at hA;simp only [Prod.mk.injEq] at hA;obtain ⟨a1,a2,a3,a4,a5,a6,a7,a8⟩:=hA;unfold ZlW at hO;simp only [Prod.mk.injEq] at hO;obtain ⟨o1,o2,o3,o4⟩:=hO;unfold ZlL at hF;simp only [Prod.mk.injEq] at hF;obtain ⟨f1,f2,f3⟩:=hF;exact ⟨b1,by rw [f1]; exact f3,by rw [f1]; exact hn,a1,a2,a3,⟨f2,b2⟩,
  fun c h=>⟨by rw [h]; exact b3,by rw [h]; exact b4,by rw [h]; exact ⟨a4,a6⟩,by rw [h]; exact ⟨_,_,_,_,_,_,_,_,_,_,_,_,_,_,_,o1⟩⟩,
  fun c h=>⟨by rw [h]; exact b5,by rw [h]; exact b6,by rw [h]; exact ⟨a5,a6⟩,by rw [h]; exact ⟨_,_,_,_,_,_,_,_,_,_,_,_,_,_,_,o2⟩⟩,
  o3,o4,Z6n b7 (by decide),Z6n b8 (by decide),a7,a8,b9,b10⟩
end Mine
end
section
open PySem.W.X PySem.W.ZRun
namespace Mine
theorem Z8J:LeftO pw qW Xa XtL (fun s=>KOk (Xn s.heap)∧s.heap.objs.size=612) (fun u0=>True) 8400 :=
 Z8Y (M:=4164) ZbE ZfB ZeN Zev Z7O (by decide) fun w os=>by
  have h1:=Zfe w os;have h2:=Zfx w os;have h5:=Zfu w os;simp only [Prod.mk.injEq] at h1 h2;unfold Zmf at h5;simp only [Prod.mk.injEq] at h5;have e:Qa w os=openGood qW Xa:=ext h1.1 (ext h1.2.1 (ext h2.1 (ext h1.2.2.1 (ext h1.2.2.2 (ext h2.2.1 (ext h2.2.2.1 h2.2.2.2))))));exact ⟨XS w os,Zn2 w os,h5.1,e,Zdk Zfw h5.2.1 h5.2.2.1 h5.2.2.2.1 h5.2.2.2.2,(absHeap_size _ _ _).trans (Zn5 w os)⟩
def dL:DefRec×List (Str×Expr):=(defOf qW "law").getD (⟨"",⟨[],[],none,[],[],none,[]⟩,[],⟨.module,[],false,false,[]⟩,⟨0,0,0,0⟩⟩,[])
end Mine
open Mine
theorem PySem.Challenge.cw_on0253_01_holds : PySem.Challenge.rw_on0253_01.Holds := by
 w_on
 refine holds_law wsT fun said=>?_;refine holds_openX (q:=qW) (loose:=Xa) (Xt:=XtL) (XP:=XL qW []) Z8J (fun s e=>xl_of s (W0h e).1) XL.keeps (d:=dL.1) (kwd:=dL.2) ?h1 ?h2 ?h3 (fun s e=>recFacts_of (W0h e).2) rfl said ?h4 ⟨rfl,rfl,rfl,rfl,rfl,?h5⟩ ?hw ?hc
 case h1=>kernel_rfl
 case h2=>kernel_rfl
 case h3=>kernel_rfl
 case h4=>kernel_rfl
 case h5=>decide +kernel
 case hw=>w_witness2
 intro w s₀ s₁ mg mb G y fa o pm cd doc dV kV ho hd hcd hD hmg hg args vals as L hpre hlay hrd hwl hlo;have y:KOk (Xn s₀.heap)∧s₀.heap.objs.size=612:=of_eq_true y;exact main G (fun a o e=>L.keeps _ _ (Zbj _ a o e)) y.2 hmg hg L hpre hlay hrd hwl hlo y.1
end
