import PyProof.Rows.All
import Wide.All
import OpenK.AllK
import Wide.FinOn
import Lean
import PySem.Challenge.RW_nt0666_01
set_option Elab.async false
set_option linter.all false
set_option maxRecDepth 1000000
open PySem PySem.W PyProof.Rows
local macro_rules
  | `(tactic| omega) => do
    let ids (s : String) := ((s.splitOn " ").map fun x => Lean.mkIdent x.toName).toArray
    let a := ids "Nat.succ_le_of_lt Nat.le_of_lt Nat.lt_succ_of_le Nat.le_of_lt_succ Nat.le_succ_of_le Mine.sub0 Mine.sub1 Mine.sub2 Nat.lt_succ_of_lt Nat.not_lt_of_le Nat.not_lt_of_lt Nat.ne_of_lt Nat.ne_of_gt Int.ne_of_gt Nat.lt_of_succ_lt"
    let b := ids "Nat.le_trans Nat.lt_of_lt_of_le Nat.lt_of_le_of_lt"
    let c := ids "Int.natCast_nonneg Mine.nn_int Nat.le_add_left Nat.le_add_right Nat.succ_ne_zero"
    `(tactic| first | (with_reducible first | assumption $[| exact $a (by assumption)]* $[| exact $b (by assumption) (by decide)]* $[| (refine $b ?_ (by assumption); decide)]* $[| apply $c]* $[| exact $b (by assumption) (by assumption)]*) | lia | omega +splitNatSub)
local macro_rules
  | `(tactic| obtain ⟨$ps,*⟩ := $h:term) => do
    let rec leaf (n : Nat) (s : Lean.Syntax) : Lean.Syntax := match n with
      | 0 => s
      | n + 1 => match s.getArgs.filter (fun x => !(x.isNone && x.getKind == Lean.nullKind)) with
        | #[x] => leaf n x
        | _ => s
    let pats := ps.getElems
    let k := pats.size
    if k < 2 then Lean.Macro.throwUnsupported
    let hn := h.raw.getId
    let x := Lean.mkIdent (.mkSimple s!"o'r{k}")
    let clr ← if h.raw.isIdent then `(tactic| try clear $h) else `(tactic| skip)
    let step (lem : String) (m : Nat) : Lean.MacroM (Lean.TSyntax `Lean.Parser.Tactic.tacticSeq) := do
      let mut bs : Array (Lean.TSyntax `term) := #[]
      let mut ts : Array (Lean.TSyntax `tactic) := #[clr]
      for p in pats.extract 0 m do
        let l := leaf 9 p.raw
        let y := Lean.mkIdent (.mkSimple s!"o'{k}{bs.size}")
        if l.isIdent && l.getId != `rfl && hn != l.getId then bs := bs.push ⟨l⟩
        else if l.isAtom || l.getKind.toString.endsWith "ignore" then bs := bs.push (← `(_))
        else
          bs := bs.push y
          ts := ts.push (← if l.isIdent && l.getId != `rfl then `(tactic| (rcases id $y with $p; try clear $y)) else `(tactic| rcases $y:term with $p))
      if m < k then
        let rest : Array (Lean.TSyntax `Lean.Parser.Tactic.rcasesPatLo) := pats.extract m k
        bs := bs.push x
        ts := ts.push (← `(tactic| obtain ⟨$rest,*⟩ := $x))
      let t0 ← `(tactic| refine $(Lean.mkIdent (.str `Mine lem)) $h fun $bs* => ?_)
      ts := #[t0] ++ ts
      `(tacticSeq| $[$ts:tactic];*)
    let ex ← ([7, 6, 5, 4, 3, 2, 1].filter (· < k)).mapM fun n => step s!"ex{n}" (if n + 1 == k then k else n)
    let an ← ([9, 8, 7, 6, 5, 4, 3, 2].filter (· ≤ k)).mapM fun n => step s!"an{n}" (if n < k then n - 1 else n)
    let alts := (ex ++ an).toArray
    `(tactic| first $[| $alts]*)
namespace Mine
theorem ex1 {α:Sort _} {p:α → Prop} {r:Prop} (h:∃ a,p a) (k:∀ a,p a → r):r:=h.elim k
theorem ex2 {α0:Sort _} {α1:Sort _} {p:α0 → α1 → Prop} {r:Prop} (h:∃ a b,p a b) (k:∀ a b,p a b → r):r:=h.elim fun a h => ex1 h (k a)
theorem ex3 {α0:Sort _} {α1:Sort _} {α2:Sort _} {p:α0 → α1 → α2 → Prop} {r:Prop} (h:∃ a b c,p a b c) (k:∀ a b c,p a b c → r):r:=h.elim fun a h => ex2 h (k a)
theorem ex4 {α0:Sort _} {α1:Sort _} {α2:Sort _} {α3:Sort _} {p:α0 → α1 → α2 → α3 → Prop} {r:Prop} (h:∃ a b c d,p a b c d) (k:∀ a b c d,p a b c d → r):r:=h.elim fun a h => ex3 h (k a)
theorem ex5 {α0:Sort _} {α1:Sort _} {α2:Sort _} {α3:Sort _} {α4:Sort _} {p:α0 → α1 → α2 → α3 → α4 → Prop} {r:Prop} (h:∃ a b c d e,p a b c d e) (k:∀ a b c d e,p a b c d e → r):r:=h.elim fun a h => ex4 h (k a)
theorem ex6 {α0:Sort _} {α1:Sort _} {α2:Sort _} {α3:Sort _} {α4:Sort _} {α5:Sort _} {p:α0 → α1 → α2 → α3 → α4 → α5 → Prop} {r:Prop} (h:∃ a b c d e f,p a b c d e f) (k:∀ a b c d e f,p a b c d e f → r):r:=h.elim fun a h => ex5 h (k a)
theorem ex7 {α0:Sort _} {α1:Sort _} {α2:Sort _} {α3:Sort _} {α4:Sort _} {α5:Sort _} {α6:Sort _} {p:α0 → α1 → α2 → α3 → α4 → α5 → α6 → Prop} {r:Prop} (h:∃ a b c d e f g,p a b c d e f g) (k:∀ a b c d e f g,p a b c d e f g → r):r:=h.elim fun a h => ex6 h (k a)
theorem an2 {a b r:Prop} (h:a ∧ b) (k:a → b → r):r:=h.elim k
theorem an3 {a0 a1 a2 r:Prop} (h:a0 ∧ a1 ∧ a2) (k:a0 → a1 → a2 → r):r:=h.elim fun x h => an2 h (k x)
theorem an4 {a0 a1 a2 a3 r:Prop} (h:a0 ∧ a1 ∧ a2 ∧ a3) (k:a0 → a1 → a2 → a3 → r):r:=h.elim fun x h => an3 h (k x)
theorem an5 {a0 a1 a2 a3 a4 r:Prop} (h:a0 ∧ a1 ∧ a2 ∧ a3 ∧ a4) (k:a0 → a1 → a2 → a3 → a4 → r):r:=h.elim fun x h => an4 h (k x)
theorem an6 {a0 a1 a2 a3 a4 a5 r:Prop} (h:a0 ∧ a1 ∧ a2 ∧ a3 ∧ a4 ∧ a5) (k:a0 → a1 → a2 → a3 → a4 → a5 → r):r:=h.elim fun x h => an5 h (k x)
theorem an7 {a0 a1 a2 a3 a4 a5 a6 r:Prop} (h:a0 ∧ a1 ∧ a2 ∧ a3 ∧ a4 ∧ a5 ∧ a6) (k:a0 → a1 → a2 → a3 → a4 → a5 → a6 → r):r:=h.elim fun x h => an6 h (k x)
theorem an8 {a0 a1 a2 a3 a4 a5 a6 a7 r:Prop} (h:a0 ∧ a1 ∧ a2 ∧ a3 ∧ a4 ∧ a5 ∧ a6 ∧ a7) (k:a0 → a1 → a2 → a3 → a4 → a5 → a6 → a7 → r):r:=h.elim fun x h => an7 h (k x)
theorem an9 {a0 a1 a2 a3 a4 a5 a6 a7 a8 r:Prop} (h:a0 ∧ a1 ∧ a2 ∧ a3 ∧ a4 ∧ a5 ∧ a6 ∧ a7 ∧ a8) (k:a0 → a1 → a2 → a3 → a4 → a5 → a6 → a7 → a8 → r):r:=h.elim fun x h => an8 h (k x)
theorem Zrq (n:Nat):¬ ((n:Int) < 0):=Int.not_lt.mpr (Int.natCast_nonneg n)
theorem ZrX {n i:Nat} (h:n - i = 0):n ≤ i:=Nat.sub_eq_zero_iff_le.mp h
theorem ZrY {n i k:Nat} (h:n - i = k + 1):i < n:=Nat.lt_of_sub_eq_succ h
theorem ZrZ {n i k:Nat} (h:n - i = k + 1):n - (i + 1) = k:=by rw [Nat.sub_add_eq,h];rfl
inductive ME where
 | cst (c:Const)
 | loc (i:Nat)
 | glob (i:Nat)
 | bin (op:Operator) (a b:ME)
 | un (op:UnaryOp) (a:ME)
 | cmp (a:ME) (ops:List CmpOp) (bs:List ME)
 | bool (op:BoolOp) (as:List ME)
 | ite (c a b:ME)
 | tup (as:List ME)
 | lst (as:List ME)
 | sub (a i:ME)
 | slc (a:ME) (lo hi:Option ME)
 | attr (a:ME) (n:Nat)
 | call (f:Nat) (as:List ME)
 | callk (f:Nat) (k:Nat) (a:ME)
 | callm (o:ME) (n:Nat) (as:List ME)
 | comp (e:ME) (iter:ME) (ifs:List ME)
 | dict (ks vs:List ME)
inductive MT where
 | loc (i:Nat)
 | attr (i:Nat) (n:Nat)
 | sub (o i:ME)
 | tup (ts:List MT)
inductive MS where
 | assign (t:MT) (e:ME)
 | aug (i:Nat) (op:Operator) (e:ME)
 | auga (i n:Nat) (op:Operator) (e:ME)
 | expr (e:ME)
 | ret (e:Option ME)
 | ife (c:ME) (a b:List MS)
 | while (c:ME) (a:List MS)
 | for (t:MT) (it:ME) (a:List MS)
 | pass
 | brk
 | raise (e:ME)
 | tryx (a:List MS) (cls:Nat) (h:List MS)
 | opq
noncomputable def GN:List Str:=List.map Str.ofString ["is_blank_values","digit_of","read_digits","skip_blanks","str_to_number","text_in_base","to_number","number_text","to_text","c_text",
 "first_line","chunk_id","quote","is_number","wrap","BLANKS","Limits","LuaError","is_digit_formats","up_to_zero",
 "digits_of","Directive","MINUS_formats","PLUS_formats","BLANK","NOUGHT","SHARP","SMALL_DIGITS","GREAT_DIGITS","LONG_TEXT",
 "number_at","read_directive","FLAGS","POINT","PlainArguments","item","format_all","PERCENT","format_values","RESERVED",
 "FIRST_RESERVED","is_digit_lexer","MOST_LINES","is_newline","is_blank_lexer","escaped_sign","reserved_kinds","Token","Lexer","END_OF_TEXT",
 "TK_EOS","TK_STRING","QUOTE_DOUBLE","QUOTE_SINGLE","MINUS_lexer","NEWLINE","RETURN","BACKSLASH","SOURCE_SIZE","all_tokens",
 "_law_flags","_law_letters","_law_signs","_law_precisions","_law_wrong","_law_octets","_law_long","_law_places","_law_padded","_law_written",
 "_law_decimal","_law_until_zero","_law_piece","_law_tried"]
noncomputable def BN:List Str:=List.map Str.ofString ["abs","len","bytes","bytearray","isinstance","max","sum","list","ord","range","enumerate","int","bool"]
noncomputable def AN:List Str:=List.map Str.ofString ["width","registers","upvalues","local_names","ccalls","frames","stack","flush","steps","text",
 "flags","precision","letter","values","limits","kind","value","trace","source","chunk",
 "kinds","at","sign","line","last_line","buffer","current","ahead",
 "append","extend","reverse","find","get","has","padded","filled","with_least","signed","unsigned","octet",
 "words","integer","refuse","next","error","move","keep","keep_and_move","clear","read",
 "skip_blank","read_string","read_escape","read_digits","near_text","keep_if","end_line","skip_comment","sign_behind"]
noncomputable def Zs (sc:Scope):List Str:=(sc.names.filter fun p => p.2 == .local).map (·.1)
noncomputable def Zd6 (sc:Scope) (n:Str):Bool:=Zs sc == [Str.ofString ".0",n] && sc.kind == .function && n != Str.ofString ".0" && sc.names.all (fun p => (p.2 == .local && sc.names.lookup p.1 == some .local) || p.2 == .globalImplicit)
noncomputable def Zrr (l:List Str) (n:Str):Option Nat:=l.findIdx? (· == n)
noncomputable def ZrM (i:Nat) (n:Str):Prop:=(GN ++ BN)[i]? = some n
noncomputable def dbg (n:Str):Bool:=n == ("__debug__":Str)
noncomputable def ZdC:Expr → Bool
 | .Call .. => false
 | _ => true
noncomputable def Zd7:Expr → Bool
 | .ListComp .. | .SetComp .. | .DictComp .. => true
 | _ => false
mutual
noncomputable def CE:Scope → Expr → ME → Prop
 | _,e,.cst c => ∃ k p,e = .Constant c k p
 | sc,e,.loc i => ∃ n p,e = .Name n p ∧ (Zs sc)[i]? = some n ∧ sc.names.lookup n = some .local ∧ dbg n = false
 | sc,e,.glob i => ∃ n p,e = .Name n p ∧ (GN ++ BN)[i]? = some n ∧ sc.names.lookup n = some .globalImplicit ∧ dbg n = false
 | sc,e,.bin op a b => ∃ l r p,e = .BinOp l op r p ∧ CE sc l a ∧ CE sc r b
 | sc,e,.un op a => ∃ x p,e = .UnaryOp op x p ∧ CE sc x a
 | sc,e,.cmp a ops bs => ∃ l rs p,e = .Compare l ops rs p ∧ CE sc l a ∧ CEs sc rs bs
 | sc,e,.bool op as => ∃ vs p,e = .BoolOp op vs p ∧ CEs sc vs as
 | sc,e,.ite c a b => ∃ t x y p,e = .IfExp t x y p ∧ CE sc t c ∧ CE sc x a ∧ CE sc y b
 | sc,e,.tup as => ∃ es k p,e = .Tuple es k p ∧ CEs sc es as
 | sc,e,.lst as => ∃ es p,e = .List es p ∧ CEs sc es as
 | sc,e,.sub a i => ∃ v s p,e = .Subscript v s p ∧ CE sc v a ∧ CE sc s i
 | sc,e,.slc a l h => ∃ v lo hi p p',e = .Subscript v (.Slice lo hi none p') p ∧ CE sc v a ∧ CEo sc lo l ∧ CEo sc hi h
 | sc,e,.attr a c => ∃ v n p,e = .Attribute v n p ∧ CE sc v a ∧ ZdC v = true ∧ AN[c]? = some n
 | sc,e,.call f as => ∃ n p1 args p,e = .Call (.Name n p1) args [] p ∧ (GN ++ BN)[f]? = some n ∧ sc.names.lookup n = some .globalImplicit ∧ dbg n = false ∧ CEs sc args as ∧ args.length < 20
 | sc,e,.callk f k a => ∃ n p1 kn p2 v p,e = .Call (.Name n p1) [] [⟨some kn,v,p2⟩] p ∧ (GN ++ BN)[f]? = some n ∧ sc.names.lookup n = some .globalImplicit ∧ dbg n = false ∧ AN[k]? = some kn ∧ CE sc v a
 | sc,e,.callm a c as => ∃ o n ap args p,e = .Call (.Attribute o n ap) args [] p ∧ CE sc o a ∧ ZdC o = true ∧ AN[c]? = some n ∧ (ap.endLine == p.line) = true ∧ CEs sc args as ∧ args.length < 20
 | sc,e,.comp me mi mfs => ∃ x n tp it ifs sc' p,e = .ListComp x [⟨.Name n tp,it,ifs,0⟩] sc' p ∧ CE sc it mi ∧ CE sc' x me ∧ CEs sc' ifs mfs ∧ Zd6 sc' n = true
 | sc,e,.dict mks mvs => ∃ ks vs p,e = .Dict ks vs p ∧ CEsO sc ks mks ∧ CEs sc vs mvs
noncomputable def CEs:Scope → List Expr → List ME → Prop
 | _,es,[] => es = []
 | sc,es,m :: ms => ∃ e r,es = e :: r ∧ CE sc e m ∧ CEs sc r ms
noncomputable def CEsO:Scope → List (Option Expr) → List ME → Prop
 | _,es,[] => es = []
 | sc,es,m :: ms => ∃ e r,es = some e :: r ∧ CE sc e m ∧ CEsO sc r ms
noncomputable def CEo:Scope → Option Expr → Option ME → Prop
 | _,e,none => e = none
 | sc,e,some m => ∃ x,e = some x ∧ CE sc x m
end
mutual
noncomputable def CT:Scope → Expr → MT → Prop
 | sc,e,.loc i => ∃ n p,e = .Name n p ∧ (Zs sc)[i]? = some n ∧ sc.names.lookup n = some .local
 | sc,e,.attr i c => ∃ n p1 a p,e = .Attribute (.Name n p1) a p ∧ (Zs sc)[i]? = some n ∧ sc.names.lookup n = some .local ∧ dbg n = false ∧ AN[c]? = some a
 | sc,e,.sub a b => ∃ o i p,e = .Subscript o i p ∧ CE sc o a ∧ CE sc i b
 | sc,e,.tup ts => ∃ es k p,e = .Tuple es k p ∧ CTs sc es ts
noncomputable def CTs:Scope → List Expr → List MT → Prop
 | _,es,[] => es = []
 | sc,es,m :: ms => ∃ e r,es = e :: r ∧ CT sc e m ∧ CTs sc r ms
end
mutual
noncomputable def CS:Scope → Stmt → MS → Prop
 | sc,s,.assign mt me => ∃ t e p,s = .Assign [t] e p ∧ CT sc t mt ∧ CE sc e me
 | sc,s,.aug i op me => ∃ n p1 e p,s = .AugAssign (.Name n p1) op e p ∧ (Zs sc)[i]? = some n ∧ sc.names.lookup n = some .local ∧ dbg n = false ∧ CE sc e me
 | sc,s,.auga i c op me => ∃ n p1 a p2 e p,s = .AugAssign (.Attribute (.Name n p1) a p2) op e p ∧ (Zs sc)[i]? = some n ∧ sc.names.lookup n = some .local ∧ dbg n = false ∧ AN[c]? = some a ∧ CE sc e me
 | sc,s,.expr me => ∃ e p,s = .Expr e p ∧ CE sc e me ∧ Zd7 e = false
 | sc,s,.ret (some me) => ∃ e p,s = .Return (some e) p ∧ CE sc e me
 | _,s,.ret none => ∃ p,s = .Return none p
 | sc,s,.ife mt ma mb => ∃ t a b p,s = .If t a b p ∧ CE sc t mt ∧ CSs sc a ma ∧ CSs sc b mb
 | sc,s,.while mt ma => ∃ t a p,s = .While t a [] p ∧ CE sc t mt ∧ CSs sc a ma
 | sc,s,.for mt mi ma => ∃ t it a p,s = .For t it a [] p ∧ CT sc t mt ∧ CE sc it mi ∧ CSs sc a ma
 | _,s,.pass => ∃ p,s = .Pass p
 | _,s,.brk => ∃ p,s = .Break p
 | sc,s,.raise me => ∃ e p,s = .Raise (some e) none p ∧ CE sc e me
 | sc,s,.tryx ma i mh => ∃ a n p1 h p2 p,s = .Try a [.ExceptHandler (some (.Name n p1)) none h p2] [] [] p ∧ CSs sc a ma ∧ (GN ++ BN)[i]? = some n ∧ sc.names.lookup n = some .globalImplicit ∧ dbg n = false ∧ CSs sc h mh
 | _,_,.opq => True
noncomputable def CSs:Scope → List Stmt → List MS → Prop
 | _,ss,[] => ss = []
 | sc,ss,m :: ms => ∃ s r,ss = s :: r ∧ CS sc s m ∧ CSs sc r ms
end
noncomputable def Zmm (sc:Scope) (n:Str):Bool:=sc.names.lookup n == some .local && !dbg n
noncomputable def ZjK (sc:Scope) (n:Str):Bool:=sc.names.lookup n == some .globalImplicit && !dbg n
theorem ZjL {sc:Scope} {n:Str} (h:Zmm sc n = true):sc.names.lookup n = some .local ∧ dbg n = false:=by
 unfold Zmm at h
 simpa using h
theorem ZiJ {sc:Scope} {n:Str} (h:ZjK sc n = true):sc.names.lookup n = some .globalImplicit ∧ dbg n = false:=by
 unfold ZjK at h
 simpa using h
noncomputable def Zf2 (l:List Str) (n:Str):Option {i:Nat // l[i]? = some n}:=if h:l[l.findIdx (· == n)]? = some n then some ⟨_,h⟩ else none
noncomputable def Zof (sc:Scope) (n:Str):Option {i:Nat // (Zs sc)[i]? = some n ∧ sc.names.lookup n = some .local ∧ dbg n = false}:=if h:Zmm sc n = true then (Zf2 (Zs sc) n).map fun i => ⟨i.1,i.2,ZjL h⟩ else none
noncomputable def Zmn (sc:Scope) (n:Str):Option {i:Nat // (GN ++ BN)[i]? = some n ∧ sc.names.lookup n = some .globalImplicit ∧ dbg n = false}:=if h:ZjK sc n = true then (Zf2 (GN ++ BN) n).map fun i => ⟨i.1,i.2,ZiJ h⟩ else none
noncomputable def FOk (sc:Scope) (f:Expr):Nat ⊕ (ME × Nat × Nat) → Prop
 | .inl i => ∃ n p,f = .Name n p ∧ (GN ++ BN)[i]? = some n ∧ sc.names.lookup n = some .globalImplicit ∧ dbg n = false
 | .inr (a,c,el) => ∃ o n ap,f = .Attribute o n ap ∧ CE sc o a ∧ ZdC o = true ∧ AN[c]? = some n ∧ el = ap.endLine
noncomputable def KOk (sc:Scope) (ks:List Keyword):Option (Nat × ME) → Prop
 | none => ks = []
 | some (k,a) => ∃ kn v p2,ks = [⟨some kn,v,p2⟩] ∧ AN[k]? = some kn ∧ CE sc v a
noncomputable def ZqR (sc:Scope) (s:Expr) (q:Option ME × Option ME):Prop:=∃ lo hi p',s = .Slice lo hi none p' ∧ CEo sc lo q.1 ∧ CEo sc hi q.2
noncomputable def GOk (sc sc':Scope) (gs:List Comprehension) (q:ME × List ME):Prop:=∃ n tp it ifs,gs = [⟨.Name n tp,it,ifs,0⟩] ∧ CE sc it q.1 ∧ CEs sc' ifs q.2 ∧ Zd6 sc' n = true
theorem ZpT {sc s q v p a} (h:ZqR sc s q) (c:CE sc v a):CE sc (.Subscript v s p) (.slc a q.1 q.2):=by
 obtain ⟨lo,hi,p',rfl,h1,h2⟩:=h
 exact ⟨v,lo,hi,p,p',rfl,c,h1,h2⟩
theorem Zog {sc sc' gs q x p m} (h:GOk sc sc' gs q) (c:CE sc' x m):CE sc (.ListComp x gs sc' p) (.comp m q.1 q.2):=by
 obtain ⟨n,tp,it,ifs,rfl,h1,h2,h3⟩:=h
 exact ⟨x,n,tp,it,ifs,sc',p,rfl,h1,c,h2,h3⟩
noncomputable def ZqS {sc:Scope} {f:Expr} {args:List Expr} {ks:List Keyword} (p:Pos) (r:{r // FOk sc f r}) (as:{as // CEs sc args as}) (k:{k // KOk sc ks k}) (hl:args.length < 20):Option {m // CE sc (.Call f args ks p) m} :=
 match r,k,as with
 | ⟨.inl i,h⟩,⟨none,hk⟩,⟨as,ha⟩ => some ⟨.call i as,by subst hk;obtain ⟨n,p1,rfl,h1,h2,h3⟩:=h;exact ⟨n,p1,args,p,rfl,h1,h2,h3,ha,hl⟩⟩
 | ⟨.inl i,h⟩,⟨some (k,a),hk⟩,⟨[],ha⟩ => some ⟨.callk i k a,by obtain ⟨kn,v,p2,rfl,h4,h5⟩:=hk;obtain ⟨n,p1,rfl,h1,h2,h3⟩:=h;cases ha;exact ⟨n,p1,kn,p2,v,p,rfl,h1,h2,h3,h4,h5⟩⟩
 | ⟨.inr (a,c,el),h⟩,⟨none,hk⟩,⟨as,ha⟩ => if e:(el == p.line) = true then some ⟨.callm a c as,by subst hk;obtain ⟨o,n,ap,rfl,h1,h2,h3,rfl⟩:=h;exact ⟨o,n,ap,args,p,rfl,h1,h2,h3,e,ha,hl⟩⟩ else none
 | _,_,_ => none
mutual
noncomputable def cE (sc:Scope):(e:Expr) → Option {m // CE sc e m}
 | .Constant c k p => some ⟨.cst c,k,p,rfl⟩
 | .Name n p => match Zof sc n with
  | some i => some ⟨.loc i.1,n,p,rfl,i.2⟩
  | none => (Zmn sc n).map fun i => ⟨.glob i.1,n,p,rfl,i.2⟩
 | .BinOp l op r p => (cE sc l).bind fun a => (cE sc r).map fun b => ⟨.bin op a.1 b.1,l,r,p,rfl,a.2,b.2⟩
 | .UnaryOp op x p => (cE sc x).map fun a => ⟨.un op a.1,x,p,rfl,a.2⟩
 | .Compare l ops rs p => (cE sc l).bind fun a => (cEs sc rs).map fun b => ⟨.cmp a.1 ops b.1,l,rs,p,rfl,a.2,b.2⟩
 | .BoolOp op vs p => (cEs sc vs).map fun a => ⟨.bool op a.1,vs,p,rfl,a.2⟩
 | .IfExp t x y p => (cE sc t).bind fun c => (cE sc x).bind fun a => (cE sc y).map fun b => ⟨.ite c.1 a.1 b.1,t,x,y,p,rfl,c.2,a.2,b.2⟩
 | .Tuple es k p => (cEs sc es).map fun a => ⟨.tup a.1,es,k,p,rfl,a.2⟩
 | .List es p => (cEs sc es).map fun a => ⟨.lst a.1,es,p,rfl,a.2⟩
 | .Subscript v s p => (cE sc v).bind fun a => match cSl sc s with
  | some q => some ⟨.slc a.1 q.1.1 q.1.2,ZpT q.2 a.2⟩
  | none => (cE sc s).map fun i => ⟨.sub a.1 i.1,v,s,p,rfl,a.2,i.2⟩
 | .Attribute v n p => (cE sc v).bind fun a => if h:ZdC v = true then (Zf2 AN n).map fun c => ⟨.attr a.1 c.1,v,n,p,rfl,a.2,h,c.2⟩ else none
 | .Call f args ks p => (cF sc f).bind fun r => (cEs sc args).bind fun as => (cK sc ks).bind fun k => if hl:args.length < 20 then ZqS p r as k hl else none
 | .ListComp e gs sc' p => (cE sc' e).bind fun m => (cG sc sc' gs).map fun q => ⟨.comp m.1 q.1.1 q.1.2,Zog q.2 m.2⟩
 | .Dict ks vs p => (cEsO sc ks).bind fun a => (cEs sc vs).map fun b => ⟨.dict a.1 b.1,ks,vs,p,rfl,a.2,b.2⟩
 | _ => none
noncomputable def cSl (sc:Scope):(e:Expr) → Option {q // ZqR sc e q}
 | .Slice lo hi x p' => (cEo sc lo).bind fun a => (cEo sc hi).bind fun b => match x with
  | none => some ⟨(a.1,b.1),lo,hi,p',rfl,a.2,b.2⟩
  | some _ => none
 | _ => none
noncomputable def cF (sc:Scope):(f:Expr) → Option {r // FOk sc f r}
 | .Name n p => (Zmn sc n).map fun i => ⟨.inl i.1,n,p,rfl,i.2⟩
 | .Attribute o n ap => (cE sc o).bind fun a => (Zf2 AN n).bind fun c => if h:ZdC o = true then some ⟨.inr (a.1,c.1,ap.endLine),o,n,ap,rfl,a.2,h,c.2,rfl⟩ else none
 | _ => none
noncomputable def cK (sc:Scope):(ks:List Keyword) → Option {k // KOk sc ks k}
 | [] => some ⟨none,rfl⟩
 | [⟨some kn,v,p2⟩] => (Zf2 AN kn).bind fun k => (cE sc v).map fun a => ⟨some (k.1,a.1),kn,v,p2,rfl,k.2,a.2⟩
 | _ => none
noncomputable def cG (sc sc':Scope):(gs:List Comprehension) → Option {q // GOk sc sc' gs q}
 | [⟨.Name n tp,it,ifs,0⟩] => (cE sc it).bind fun a => (cEs sc' ifs).bind fun b => if h:Zd6 sc' n = true then some ⟨(a.1,b.1),n,tp,it,ifs,rfl,a.2,b.2,h⟩ else none
 | _ => none
noncomputable def cEs (sc:Scope):(e:List Expr) → Option {m // CEs sc e m}
 | [] => some ⟨[],rfl⟩
 | e :: es => (cE sc e).bind fun a => (cEs sc es).map fun b => ⟨a.1 :: b.1,e,es,rfl,a.2,b.2⟩
noncomputable def cEsO (sc:Scope):(e:List (Option Expr)) → Option {m // CEsO sc e m}
 | [] => some ⟨[],rfl⟩
 | some e :: es => (cE sc e).bind fun a => (cEsO sc es).map fun b => ⟨a.1 :: b.1,e,es,rfl,a.2,b.2⟩
 | _ => none
noncomputable def cEo (sc:Scope):(e:Option Expr) → Option {m // CEo sc e m}
 | none => some ⟨none,rfl⟩
 | some e => (cE sc e).map fun a => ⟨some a.1,e,rfl,a.2⟩
end
noncomputable def Zmo (sc:Scope) (e:Expr) (i:Nat):Prop:=∃ n p,e = .Name n p ∧ (Zs sc)[i]? = some n ∧ sc.names.lookup n = some .local ∧ dbg n = false
noncomputable def cN (sc:Scope):(e:Expr) → Option {i:Nat // Zmo sc e i}
 | .Name n p => (Zof sc n).map fun i => ⟨i.1,n,p,rfl,i.2⟩
 | _ => none
theorem Zoh {sc o i a p c} (h:Zmo sc o i) (hc:AN[c]? = some a):CT sc (.Attribute o a p) (.attr i c):=by
 obtain ⟨n,p1,rfl,h1,h2,h3⟩:=h
 exact ⟨n,p1,a,p,rfl,h1,h2,h3,hc⟩
mutual
noncomputable def cT (sc:Scope):(e:Expr) → Option {m // CT sc e m}
 | .Name n p => (Zof sc n).map fun i => ⟨.loc i.1,n,p,rfl,i.2.1,i.2.2.1⟩
 | .Attribute o a p => (cN sc o).bind fun i => (Zf2 AN a).map fun c => ⟨.attr i.1 c.1,Zoh i.2 c.2⟩
 | .Subscript o i p => (cE sc o).bind fun a => (cE sc i).map fun b => ⟨.sub a.1 b.1,o,i,p,rfl,a.2,b.2⟩
 | .Tuple es k p => (cTs sc es).map fun a => ⟨.tup a.1,es,k,p,rfl,a.2⟩
 | _ => none
noncomputable def cTs (sc:Scope):(e:List Expr) → Option {m // CTs sc e m}
 | [] => some ⟨[],rfl⟩
 | e :: es => (cT sc e).bind fun a => (cTs sc es).map fun b => ⟨a.1 :: b.1,e,es,rfl,a.2,b.2⟩
end
noncomputable def Zrs (sc:Scope) (ts:List Expr) (e:Expr) (p:Pos):Option {m // CS sc (.Assign ts e p) m}:=match ts with
 | [t] => (cT sc t).bind fun a => (cE sc e).map fun b => ⟨.assign a.1 b.1,t,e,p,rfl,a.2,b.2⟩
 | _ => none
noncomputable def Zrt (sc:Scope) (t:Expr) (op:Operator) (e:Expr) (p:Pos):Option {m // CS sc (.AugAssign t op e p) m}:=match t with
 | .Name n p1 => (Zof sc n).bind fun i => (cE sc e).map fun b => ⟨.aug i.1 op b.1,n,p1,e,p,rfl,i.2.1,i.2.2.1,i.2.2.2,b.2⟩
 | .Attribute o a p2 => (cN sc o).bind fun i => (Zf2 AN a).bind fun c => (cE sc e).map fun b => ⟨.auga i.1 c.1 op b.1,by obtain ⟨n,p1,rfl,h1,h2,h3⟩:=i.2;exact ⟨n,p1,a,p2,e,p,rfl,h1,h2,h3,c.2,b.2⟩⟩
 | _ => none
noncomputable def cHd (sc:Scope):(h:Option Expr) → Option {i:Nat // ∃ n p,h = some (.Name n p) ∧ (GN ++ BN)[i]? = some n ∧ sc.names.lookup n = some .globalImplicit ∧ dbg n = false}
 | some (.Name n p) => (Zmn sc n).map fun i => ⟨i.1,n,p,rfl,i.2⟩
 | _ => none
noncomputable def HOk (sc:Scope) (hs:List ExceptHandler) (q:Nat × List MS):Prop:=∃ n p1 h p2,hs = [.ExceptHandler (some (.Name n p1)) none h p2] ∧ (GN ++ BN)[q.1]? = some n ∧ sc.names.lookup n = some .globalImplicit ∧ dbg n = false ∧ CSs sc h q.2
mutual
noncomputable def cS (sc:Scope):(s:Stmt) → Option {m // CS sc s m}
 | .Assign ts e p => Zrs sc ts e p
 | .AugAssign t op e p => Zrt sc t op e p
 | .Expr e p => if h:Zd7 e = false then (cE sc e).map fun a => ⟨.expr a.1,e,p,rfl,a.2,h⟩ else none
 | .Return e p => match e with
  | some e => (cE sc e).map fun a => ⟨.ret (some a.1),e,p,rfl,a.2⟩
  | none => some ⟨.ret none,p,rfl⟩
 | .If t a b p => (cE sc t).bind fun x => (cSs sc a).bind fun y => (cSs sc b).map fun z => ⟨.ife x.1 y.1 z.1,t,a,b,p,rfl,x.2,y.2,z.2⟩
 | .While t a o p => (cE sc t).bind fun x => (cSs sc a).bind fun y => match o with
  | [] => some ⟨.while x.1 y.1,t,a,p,rfl,x.2,y.2⟩
  | _ => none
 | .For t it a o p => (cT sc t).bind fun x => (cE sc it).bind fun y => (cSs sc a).bind fun z => match o with
  | [] => some ⟨.for x.1 y.1 z.1,t,it,a,p,rfl,x.2,y.2,z.2⟩
  | _ => none
 | .Pass p => some ⟨.pass,p,rfl⟩
 | .Break p => some ⟨.brk,p,rfl⟩
 | .Raise e c p => match e,c with
  | some e,none => (cE sc e).map fun a => ⟨.raise a.1,e,p,rfl,a.2⟩
  | _,_ => none
 | .Try a hs oe fb p => (cSs sc a).bind fun x => (cH sc hs).bind fun q => match oe,fb with
  | [],[] => some ⟨.tryx x.1 q.1.1 q.1.2,by obtain ⟨n,p1,h,p2,rfl,h1,h2,h3,h4⟩:=q.2;exact ⟨a,n,p1,h,p2,p,rfl,x.2,h1,h2,h3,h4⟩⟩
  | _,_ => none
 | _ => none
noncomputable def cH (sc:Scope):(hs:List ExceptHandler) → Option {q // HOk sc hs q}
 | [.ExceptHandler e none h p] => (cHd sc e).bind fun i => (cSs sc h).map fun y => ⟨(i.1,y.1),by obtain ⟨n,p1,rfl,h1,h2,h3⟩:=i.2;exact ⟨n,p1,h,p,rfl,h1,h2,h3,y.2⟩⟩
 | _ => none
noncomputable def cSs (sc:Scope):(e:List Stmt) → Option {m // CSs sc e m}
 | [] => some ⟨[],rfl⟩
 | s :: ss => (cSs sc ss).map fun b => match cS sc s with
  | some a => ⟨a.1 :: b.1,s,ss,rfl,a.2,b.2⟩
  | none => ⟨.opq :: b.1,s,ss,rfl,trivial,b.2⟩
end
end Mine
section
open PySem.Sem (wp)
namespace Mine
noncomputable def badIds:List String:=["bytearray.__contains__","bytearray.__mod__","bytearray.__rmod__","_struct.pack_into.held","bytearray.find.held"] ++ Builtin.Bytes.decodersThatHold
noncomputable def bad:Code → Bool
 | .builtin id _ => badIds.contains id
 | _ => false
noncomputable def ZjM (Γ:Ctx):Prop:=∀ x ∈ Γ.below,bad x.1 = false
noncomputable def Clean (Γ:Ctx):Prop:=bad Γ.code = false ∧ ZjM Γ
noncomputable def wpAny {α:Type} (M:Model) (A:Around) (t:Sem α) (Q:α → Shared → Prop) (E:Value → Shared → Prop) (s:Shared):Prop :=
 ∀ Γ p,Γ.In A → Clean Γ → wp M Γ t (fun a _ s' => Q a s') (fun e _ s' => E e s') p s
noncomputable def codeAny (M:Model) (A:Around) (c:Code) (R:Result → Shared → Prop) (s:Shared):Prop :=
 ∀ Γ p,Γ.code = c → Γ.Below A → ZjM Γ → wpCode M Γ R p s
section
variable {α β:Type} {M:Model} {A:Around} {E:Value → Shared → Prop} {s:Shared}
theorem up {t:Sem α} {Q:α → Shared → Prop} (h:PySem.wpAny M A t Q E s):wpAny M A t Q E s:=fun Γ p hΓ _ => h Γ p hΓ
theorem upc {c:Code} {R:Result → Shared → Prop} (h:PySem.codeAny M A c R s):codeAny M A c R s:=fun Γ p hc hΓ _ => h Γ p hc hΓ
theorem wpAny_pure {a:α} {Q:α → Shared → Prop} (h:Q a s):wpAny M A (pure a) Q E s:=fun _ _ _ _ => h
theorem Zpr {e:Value} {Q:α → Shared → Prop} (h:E e s):wpAny M A (throw e:Sem α) Q E s:=fun _ _ _ _ => h
theorem wpAny_mono {t:Sem α} {Q Q':α → Shared → Prop} {E':Value → Shared → Prop} (h:wpAny M A t Q E s) (hQ:∀ a s,Q a s → Q' a s) (hE:∀ e s,E e s → E' e s):wpAny M A t Q' E' s :=
 fun Γ p hΓ hc => Sem.wp_mono M Γ t (fun a _ s => hQ a s) (fun e _ s => hE e s) p s (h Γ p hΓ hc)
theorem wpAny_bind {m:Sem α} {f:α → Sem β} {Q:β → Shared → Prop} (h:wpAny M A m (fun a s' => wpAny M A (f a) Q E s') E s):wpAny M A (m >>= f) Q E s:=fun Γ p hΓ hc => by
 rw [Sem.wp_bind']
 exact Sem.wp_mono M Γ m (fun a p' s' h' => h' Γ p' hΓ hc) (fun _ _ _ h' => h') p s (h Γ p hΓ hc)
theorem Zmp {m:Sem α} {k:Value → Sem α} {Q:α → Shared → Prop} (h:wpAny M A m Q (fun e s' => wpAny M A (k e) Q E s') s):wpAny M A (tryCatch m k) Q E s:=fun Γ p hΓ hc => by
 rw [Sem.wp_tryCatch']
 exact Sem.wp_mono M Γ m (fun _ _ _ h' => h') (fun e p' s' h' => h' Γ p' hΓ hc) p s (h Γ p hΓ hc)
theorem Zaj {m:Sem α} {k:Value → Sem Unit} {Q:α → Shared → Prop} (h:wpAny M A m Q (fun e s' => wpAny M A (k e) (fun _ s'' => E e s'') E s') s):wpAny M A (m.onRaise k) Q E s:=fun Γ p hΓ hc => by
 rw [Sem.wp_onRaise]
 exact Sem.wp_mono M Γ m (fun _ _ _ h' => h') (fun e p' s' h' => h' Γ p' hΓ hc) p s (h Γ p hΓ hc)
theorem wpAny_attempt {m:Sem α} {Q:Except Value α → Shared → Prop} (h:wpAny M A m (fun a => Q (.ok a)) (fun e => Q (.error e)) s):wpAny M A m.attempt Q E s:=fun Γ p hΓ hc => by rw [Sem.wp_attempt];exact h Γ p hΓ hc
theorem wpAny_holding {vs:List Value} {m:Sem α} {Q:α → Shared → Prop} (h:wpAny M A m Q E s):wpAny M A (holding vs m) Q E s:=fun Γ p hΓ hc => by rw [Sem.wp_holding];exact h Γ p hΓ hc
theorem wpAny_of_eq {t:Sem α} {a:α} {Q:α → Shared → Prop} (e:t = pure a) (h:Q a s):wpAny M A t Q E s:=by rw [e];exact wpAny_pure h
theorem wpAny_rule {tag:String} {Q:Unit → Shared → Prop} (h:Q () s):wpAny M A (rule tag) Q E s:=fun _ _ _ _ => h
theorem wpAny_standAt {pos:Pos} {Q:Unit → Shared → Prop} (h:Q () s):wpAny M A (standAt pos) Q E s:=fun _ _ _ _ => h
theorem Zdc {Q:Unit → Shared → Prop} (h:Q () s):wpAny M A point Q E s:=fun _ _ _ _ => h
theorem wpAny_load {a:Addr} {o:Obj} {Q:Obj → Shared → Prop} (ho:s.heap.get? a = some o) (h:Q o s):wpAny M A (load a) Q E s:=up (PySem.wpAny_load ho h)
theorem wpAny_mkInt {i:Int} {Q:Value → Shared → Prop} (h:Q (.int i s.toks) { s with toks:=s.toks + 1 }):wpAny M A (mkInt i) Q E s:=fun _ _ _ _ => h
theorem wpAny_release {vs live:List Value} {Q:Unit → Shared → Prop} (h:Q () s):wpAny M A (release vs live) Q E s:=up (PySem.wpAny_release h)
theorem Zl {b:Bool} {Q:Bool → Shared → Prop} (h:Q b s):wpAny M A (truthy (.bool b)) Q E s:=fun _ _ _ _ => h
theorem wpAny_nsGet {a:Addr} {m:Str → Option Value} {name:Str} {Q:Option Value → Shared → Prop} (hn:s.heap.Ns a m) (h:Q (m name) s):wpAny M A (nsGet a name) Q E s:=up (PySem.wpAny_nsGet hn h)
theorem Clean.enter {Γ:Ctx} (h:Clean Γ) (c:Code) (hd:Option Value) (p:Pos):ZjM (Γ.enter c hd p):=fun x hx => by
 rcases List.mem_cons.mp hx with rfl | hx
 ·exact h.1
 ·exact h.2 x hx
theorem codeAny_mono {c:Code} {R R':Result → Shared → Prop} (h:codeAny M A c R s) (hR:∀ r s,R r s → R' r s):codeAny M A c R' s:=fun Γ p hc hΓ hb => wpCode_mono hR (h Γ p hc hΓ hb)
theorem Ze2 {c:Code} {h:Option Value} {Q:Flow → Shared → Prop} (hc:codeAny M (A.mark h) c (fun r s' => match r with | .ok f => Q f s' | .error e => E e s') s) (hnb:h ≠ some byPass:=by intro x;cases x):wpAny M A (run c h) Q E s :=
 fun Γ p hΓ hb => by rw [Sem.wp_run];exact hc _ p rfl (hΓ.enter c h p hnb) (hb.enter c h p)
theorem Zf3 {c:Code} {Q:Value → Shared → Prop} (hc:codeAny M A c (fun r s' => match r with | .ok (.ret v) => Q v s' | .ok _ => False | .error e => E e s') s):wpAny M A (runValue c) Q E s :=
 fun Γ p hΓ hb => by rw [Sem.wp_runValue];exact hc _ p rfl (hΓ.enter c none p (by intro x;cases x)) (hb.enter c none p)
theorem wpAny_call {f:Value} {pos:List Value} {kw:List (Str × Value)} {Q:Value → Shared → Prop} (hc:codeAny M A (.call f ⟨pos,kw⟩) (fun r s' => match r with | .ok (.ret v) => Q v s' | .ok _ => False | .error e => E e s') s) :
  wpAny M A (call f pos kw) Q E s:=Zf3 hc
theorem codeAny_of_tree {c:Code} {R:Result → Shared → Prop} (hbad:bad c = false)
  (h:wpAny M (A.under c) (M.den c) (fun fin s' => match fin with | .done f => R (.ok f) s' | .again c' => c'.quiet = true ∧ codeAny M A c' R s') (fun e s' => R (.error e) s') s):codeAny M A c R s:=fun Γ p hc hΓ hb => by
 rw [wpCode_iff_wp,hc]
 refine Sem.wp_mono M Γ _ (fun fin p' s' h' => ?_) (fun _ _ _ h' => h') p s (h Γ p (hc ▸ hΓ.in) ⟨hc ▸ hbad,hb⟩)
 cases fin with
 | done f => exact h'
 | again c' => exact ⟨h'.1,h'.2 (Γ.goto c') p' rfl (hΓ.goto c') hb⟩
theorem Zes {env:Env} {c:Code} {h:Option Value} {Q:Flow → Shared → Prop}
  (hc:codeAny M (A.mark h) c (fun r s' => match r with | .ok f => Q f s' | .error e => cameBackBy M A env E e s') s) (hnb:h ≠ some byPass:=by intro x;cases x):wpAny M A (runOwn c env h) Q E s:=by
 unfold runOwn
 exact Zaj (wpAny_mono (Ze2 (E:=fun e s' => cameBackBy M A env E e s') hc hnb) (fun _ _ x => x) fun _ _ x => up x)
theorem Zbr {env:Env} {m:Sem α} {Q:α → Shared → Prop} (h:wpAny M A m Q (notedBy M A env E) s):wpAny M A (m.onRaise fun x => do noteFrame x env;theTreesLotGoes x) Q E s :=
 Zaj (wpAny_mono h (fun _ _ q => q) fun _ _ hx => wpAny_bind (wpAny_mono (up hx) (fun _ _ e => up (wpAny_theTreesLotGoes e)) fun _ _ e => e))
theorem ZbK {c:Code} {R:Result → Shared → Prop} (hbad:bad c = false) (hu:A.under c = A) (hq:c.quiet = true) (I:Nat → Shared → Prop)
  (turn:∀ n s,I n s → wpAny M A (M.den c) (fun fin s' => match fin with | .done f => R (.ok f) s' | .again c' => (c' = c ∧ ∃ m,m < n ∧ I m s') ∨ (c'.quiet = true ∧ codeAny M A c' R s')) (fun e s' => R (.error e) s') s) :
  ∀ (n:Nat) (s:Shared),I n s → codeAny M A c R s:=by
 intro n
 induction n using Nat.strongRecOn with
 | _ n ih =>
  intro s hI
  refine codeAny_of_tree hbad ?_
  rw [hu]
  refine wpAny_mono (turn n s hI) (fun fin s' h' => ?_) fun _ _ x => x
  cases fin with
  | done f => exact h'
  | again c' =>
   rcases h' with ⟨rfl,m,hm,hI'⟩ | h'
   ·exact ⟨hq,ih m hm s' hI'⟩
   ·exact h'
end
section
variable {prog:Program} {w:World} {A:Around} {E:Value → Shared → Prop} {R:Result → Shared → Prop} {s:Shared}
theorem Zcd {test body orelse env} (I:Nat → Shared → Prop)
  (turn:∀ n s,I n s →
   wpAny (model prog w) A (isTrue test env (eval test env)) (fun b s₂ =>
    if b then wpAny (model prog w) A (execs body env) (fun f s₃ => match f with
      | .next | .cont => ∃ m,m < n ∧ I m s₃
      | .brk => R (.ok .next) s₃
      | .ret v => R (.ok (.ret v)) s₃) (notedBy (model prog w) A env fun e s' => R (.error e) s') s₂
    else wpAny (model prog w) A (execs orelse env) (fun f s₃ => R (.ok f) s₃) (notedBy (model prog w) A env fun e s' => R (.error e) s') s₂)
    (notedBy (model prog w) A env fun e s' => R (.error e) s') s)
  (n:Nat) (h:I n s):codeAny (model prog w) A (.whileLoop test body orelse env) R s:=by
 refine ZbK rfl (Around.under_of_weight rfl) rfl I (fun n s hI => ?_) n s h
 show wpAny _ A ((whileTurn test body orelse env).onRaise (fun x => do noteFrame x env;theTreesLotGoes x)) _ _ s
 refine Zbr ?_
 simp only [whileTurn]
 refine wpAny_bind (wpAny_mono (turn n s hI) (fun b s₂ h₂ => ?_) fun _ _ h' => h')
 cases b with
 | false =>
  simp only [Bool.false_eq_true,if_false] at h₂ ⊢
  exact wpAny_bind (wpAny_mono h₂ (fun f s₃ h₃ => wpAny_pure h₃) fun _ _ h' => h')
 | true =>
  simp only [if_true] at h₂ ⊢
  refine wpAny_bind (wpAny_mono h₂ (fun f s₃ h₃ => ?_) fun _ _ h' => h')
  cases f with
  | next => exact wpAny_pure (.inl ⟨rfl,h₃⟩)
  | cont => exact wpAny_pure (.inl ⟨rfl,h₃⟩)
  | brk => exact wpAny_pure h₃
  | ret v => exact wpAny_pure h₃
end
end Mine
end
section
open PySem.Sem (wp)
namespace Mine
section
variable {prog:Program} {w:World} {A:Around} {E:Value → Shared → Prop} {R:Result → Shared → Prop} {s:Shared}
theorem Zd0 {stmts:List Stmt} {env:Env}
  (h:wpAny (model prog w) A (execs stmts env) (fun f s' => R (.ok f) s') (notedBy (model prog w) A env fun e s' => R (.error e) s') s):codeAny (model prog w) A (.block stmts env) R s:=by
 refine codeAny_of_tree rfl ?_
 rw [Around.under_of_weight (c:=.block stmts env) rfl]
 show wpAny _ _ (do return Fin.done (← (execs stmts env).onRaise (fun x => do noteFrame x env;theTreesLotGoes x))) _ _ s
 exact wpAny_bind (Zbr (wpAny_mono h (fun f s' h' => wpAny_pure h') fun _ _ h' => h'))
theorem ZfG {target it body orelse env} (I:Nat → Shared → Prop)
  (turn:∀ n s,I n s → wpAny (model prog w) A (pyNext it) (fun r s₁ => match r with
   | none => wpAny (model prog w) A (execs orelse env) (fun f s₃ => R (.ok f) s₃) (notedBy (model prog w) A env fun e s' => R (.error e) s') s₁
   | some v => wpAny (model prog w) A (assign target env v) (fun _ s₂ => wpAny (model prog w) A (execs body env) (fun f s₃ => match f with
     | .next | .cont => ∃ m,m < n ∧ I m s₃
     | .brk => R (.ok .next) s₃
     | .ret v => R (.ok (.ret v)) s₃) (notedBy (model prog w) A env fun e s' => R (.error e) s') s₂) (notedBy (model prog w) A env fun e s' => R (.error e) s') s₁) (notedBy (model prog w) A env fun e s' => R (.error e) s') s)
  (n:Nat) (h:I n s) (ht:∀ v,letOwnedTupleGo target it v = pure ():=by intro _;rfl):codeAny (model prog w) A (.forLoop target it body orelse env) R s:=by
 refine ZbK rfl (Around.under_of_weight rfl) rfl I (fun n s hI => ?_) n s h
 show wpAny _ _ ((forTurn target it body orelse env).onRaise (fun x => do noteFrame x env;theTreesLotGoes x)) _ _ s
 refine Zbr ?_
 simp only [forTurn]
 refine wpAny_bind (wpAny_standAt (wpAny_bind (Zaj (wpAny_mono (turn n s hI) (fun r s₁ h₁ => ?_) fun _ _ h' => wpAny_standAt h'))))
 cases r with
 | none => exact wpAny_pure (.inr ⟨rfl,Zd0 h₁⟩)
 | some v =>
  refine wpAny_bind (wpAny_of_eq (ht v) ?_)
  refine wpAny_bind (wpAny_mono h₁ (fun _ s₂ h₂ => wpAny_bind (wpAny_mono h₂ (fun f s₃ h₃ => ?_) fun _ _ h' => h')) fun _ _ h' => h')
  cases f with
  | next => exact wpAny_pure (.inl ⟨rfl,h₃⟩)
  | cont => exact wpAny_pure (.inl ⟨rfl,h₃⟩)
  | brk => exact wpAny_pure h₃
  | ret v => exact wpAny_pure h₃
theorem ZhZ {body env}
  (h:wpAny (model prog w) (A.deeper env) (execs body env) (fun f s' => R (.ok (.ret (match f with | .ret v => v | _ => .none))) s')
   (fun e s' => PySem.wpAny (model prog w) (A.deeper env) (leaving env e) (fun _ s'' => R (.error e) s'') (fun e' s'' => R (.error e') s'') s') s) :
  codeAny (model prog w) A (.func body env) R s:=by
 refine codeAny_of_tree rfl ?_
 show wpAny _ (A.deeper env) (do point;match ← (execs body env).onRaise (leaving env) with | .ret v => ret v | _ => ret .none) _ _ s
 refine wpAny_bind (Zdc (wpAny_bind (Zaj (wpAny_mono h (fun f s' h' => ?_) fun _ _ h' => up h'))))
 cases f <;> exact wpAny_pure h'
theorem Zc6 {a:Addr} {args:Args} {o:Obj} {fd:FuncData} {body:List Stmt} (hroom:A.depth < recursionLimit) (ho:s.heap.get? a = some o)
  (hd':o.data = .func fd) (hco:fd.scope.isCoroutine = false) (hgen:fd.scope.isGenerator = false) (hbody:fd.body = .stmts body) (hcd:s.heap.CodeRec fd.code fd.qualname)
  (h:wpAny (model prog w) A.in1 (bindArgs fd args) (fun binds s₁ =>
   wpAny (model prog w) A.in1 (newFunctionEnv fd.scope fd.globals fd.closure binds (fd.qualname ++ ".<locals>.") (some a) fd.code none fd.builtins)
    (fun env s₂ => s₂.heap.NoLimit ∧ codeAny (model prog w) A (.func body env) R s₂) (fun e s' => R (.error e) s') s₁) (fun e s' => R (.error e) s') s) :
  codeAny (model prog w) A (.call (.ref a) args) R s:=by
 refine codeAny_of_tree rfl ?_
 show wpAny _ A.in1 (callAny (.ref a) args) _ _ s
 simp only [callAny]
 refine wpAny_bind (wpAny_load ho ?_)
 obtain ⟨c,oc,vs,tq,hc,hoc,hdc,hq⟩:=hcd
 simp only [hd',callFunction,hco,hgen,hbody,hc]
 rw [hc] at h
 refine wpAny_bind (m:=field (.ref c) 1) (up (PySem.wpAny_field hoc hdc hq (wpAny_bind (wpAny_pure ?_))))
 exact wpAny_bind (wpAny_mono h (fun binds s₁ h₁ => wpAny_bind (wpAny_mono h₁ (fun env s₂ h₂ => wpAny_bind (up (PySem.wpAny_enterFrame h₂.1 hroom
  (wpAny_pure (And.intro rfl h₂.2))))) fun _ _ h' => h')) fun _ _ h' => h')
theorem Zaw {a:Addr} {o:Obj} {fd:FuncData} {body:List Stmt} {args:Args} {binds:List (Str × Value)}
  (hroom:A.depth < recursionLimit) (ho:s.heap.get? a = some o) (hdata:o.data = .func fd) (hlim:s.heap.NoLimit) (hcd:s.heap.CodeRec fd.code fd.qualname)
  (hbody:fd.body = .stmts body) (hbind:BindsTo s fd args binds)
  (hcell:∀ x ∈ fd.scope.names,x.2 ≠ .cell) (hloc:∀ x ∈ binds,fd.scope.names.lookup x.1 = some .local)
  (h:∀ h₀,h₀.Ns s.heap.objs.size (fun x => binds.reverse.lookup x) → (∀ b o,s.heap.get? b = some o → h₀.get? b = some o) →
   wpAny (model prog w) (A.deeper (callEnv fd s.heap.objs.size a)) (execs body (callEnv fd s.heap.objs.size a)) (fun f s' => R (.ok (.ret (match f with | .ret v => v | _ => .none))) s')
    (fun e s' => PySem.wpAny (model prog w) (A.deeper (callEnv fd s.heap.objs.size a)) (leaving (callEnv fd s.heap.objs.size a) e) (fun _ s'' => R (.error e) s'') (fun e' s'' => R (.error e') s'') s')
    { s with heap:=h₀,toks:=s.toks + binds.length })
  (hco:fd.scope.isCoroutine = false:=by rfl) (hgen:fd.scope.isGenerator = false:=by rfl) (hk:fd.scope.kind = .function:=by rfl) :
  codeAny (model prog w) A (.call (.ref a) args) R s:=by
 refine Zc6 hroom ho hdata hco hgen hbody hcd (up (hbind _ _ _ _ (up (wpAny_newFunctionEnv hcell hloc (fun h₀ hns₀ hsb₀ => ⟨hlim.fresh _ hsb₀,ZhZ (h h₀ hns₀ fun b o e => ?_)⟩) hk))))
 exact hsb₀.extBut b o (Nat.ne_of_lt (Heap.lt_size e)) (Heap.get?_push_of_some _ e)
end
section
variable {M:Model} {A:Around} {E:Value → Shared → Prop} {s:Shared} {env:Env}
theorem Z6 {l:List Value} {t:Sem Value} {Q:Value → Shared → Prop} (h:wpAny M A t Q E s):wpAny M A (operate l t) Q E s:=by
 unfold operate
 exact wpAny_bind (wpAny_holding (wpAny_mono h (fun r s₁ h₁ => wpAny_bind (wpAny_release (wpAny_pure h₁))) fun _ _ x => x))
theorem wpAny_newObj_type {n:String} {d:Data} {dict:Option Addr} {Q:Value → Shared → Prop} (h:Q (.ref s.heap.objs.size) { s with heap:=s.heap.push { cls:=.type n,data:=d,dict:=dict } }) (hd:sizeOk d:=by size_fits):wpAny M A (newObj (.type n) d dict) Q E s :=
 up (PySem.wpAny_newObj_type h hd)
theorem ZbU {x:Str} {v:Value} {Q:Unit → Shared → Prop} (h:wpAny M A (storeName env x v) Q E s):wpAny M A (bindName env x v) Q E s:=fun Γ p hΓ hc => by
 rw [Sem.wp_bindName];exact h Γ p hΓ hc
theorem wpAny_Name {x pos} {Q:Value → Shared → Prop} (h:wpAny M A (loadName env x) Q E s) (hd:(x == ("__debug__":Str)) = false:=by decide):wpAny M A (eval (.Name x pos) env) Q E s:=by
 rw [eval_Name env x pos hd]
 exact wpAny_bind (wpAny_standAt h)
theorem Zfr {l op r pos} {Q:Value → Shared → Prop} (h:wpAny M A (eval l env) (fun a s₁ => wpAny M A (eval r env) (fun b s₂ => wpAny M A (binaryOp op a b) Q E s₂) E s₁) E s):wpAny M A (eval (.BinOp l op r pos) env) Q E s:=by
 rw [eval_BinOp]
 exact wpAny_bind (wpAny_mono h (fun a s₁ h₁ => wpAny_bind (wpAny_holding (wpAny_mono h₁ (fun b s₂ h₂ => wpAny_bind (wpAny_standAt (Z6 h₂))) fun _ _ x => x))) fun _ _ x => x)
theorem Zg2 {op:UnaryOp} {x:Expr} {pos:Pos} {Q:Value → Shared → Prop} (h:wpAny M A (eval x env) (fun v s₁ => wpAny M A (unaryOp op v) Q E s₁) E s):wpAny M A (eval (.UnaryOp op x pos) env) Q E s:=by
 rw [arm_eval_UnaryOp]
 exact wpAny_bind (wpAny_mono h (fun v s₁ h₁ => wpAny_bind (wpAny_standAt (wpAny_holding h₁))) fun _ _ x => x)
theorem Zdd {l op r pos} {Q:Value → Shared → Prop} (h:wpAny M A (eval l env) (fun a s₁ => wpAny M A (eval r env) (fun b s₂ => wpAny M A (compareOp op a b) Q E s₂) E s₁) E s)
  (hm:behindInMarks op r = false):wpAny M A (eval (.Compare l [op] [r] pos) env) Q E s:=by
 rw [eval_Compare1,markedBehindIn_of_false hm]
 exact wpAny_bind (wpAny_mono h (fun a s₁ h₁ => wpAny_bind (wpAny_holding (wpAny_mono h₁ (fun b s₂ h₂ => wpAny_bind (wpAny_standAt (Z6 h₂))) fun _ _ x => x))) fun _ _ x => x)
theorem Zc7 {l op r pos whole} {Q:Bool → Shared → Prop}
  (h:wpAny M A (eval l env) (fun a s₁ => wpAny M A (eval r env) (fun b s₂ => wpAny M A (compareOp op a b) (fun c s₃ => wpAny M A (truthy c) Q E s₃) E s₂) E s₁) E s)
  (hm:behindInMarks op r = false):wpAny M A (isTrue (.Compare l [op] [r] pos) env whole) Q E s:=by
 rw [isTrue_Compare1,markedBehindIn_of_false hm]
 exact wpAny_bind (wpAny_mono h (fun a s₁ h₁ => wpAny_bind (wpAny_holding (wpAny_mono h₁ (fun b s₂ h₂ => wpAny_bind (wpAny_standAt (wpAny_bind (Z6 (wpAny_mono h₂ (fun c s₃ h₃ => wpAny_holding h₃) fun _ _ x => x))))) fun _ _ x => x))) fun _ _ x => x)
theorem Zfs {test body orelse:Expr} {pos:Pos} {Q:Value → Shared → Prop}
  (h:wpAny M A (isTrue test env (eval test env)) (fun b s₁ => if b then wpAny M A (eval body env) Q E s₁ else wpAny M A (eval orelse env) Q E s₁) E s):wpAny M A (eval (.IfExp test body orelse pos) env) Q E s:=by
 rw [arm_eval_IfExp]
 refine wpAny_bind (wpAny_mono h (fun b s₁ h₁ => ?_) fun _ _ x => x)
 cases b <;> exact h₁
theorem wpAny_items_nil {pos:Pos} {Q:List Value → Shared → Prop} (h:Q [] s):wpAny M A (spliced (backTo pos (starEach [] env))) Q E s:=up (PySem.wpAny_items_nil h)
theorem Zbd {pos:Pos} {e:Expr} {rest:List Expr} {Q:List Value → Shared → Prop}
  (h:wpAny M A (eval e env) (fun v s₁ => wpAny M A (spliced (backTo pos (starEach rest env))) (fun vs s₂ => Q (v :: vs) s₂) E s₁) E s)
  (he:starEach (e :: rest) env = (false,eval e env) :: starEach rest env):wpAny M A (spliced (backTo pos (starEach (e :: rest) env))) Q E s:=by
 rw [he]
 show wpAny M A (do
  let v ← eval e env
  let here ← (pure [v]:Sem (List Value))
  return here ++ (← holding here (spliced (backTo pos (starEach rest env))))) Q E s
 exact wpAny_bind (wpAny_mono h (fun v s₁ h₁ => wpAny_bind (wpAny_pure (wpAny_bind (wpAny_holding (wpAny_mono h₁ (fun vs s₂ h₂ => wpAny_pure h₂) fun _ _ x => x)))) ) fun _ _ x => x)
theorem ZiK {elts:List Expr} {k:Nat} {pos:Pos} {Q:Value → Shared → Prop}
  (h:wpAny M A (spliced (backTo pos (starEach elts env))) (fun vs s₁ => vs.length ≤ sizeLine ∧ Q (.ref s₁.heap.objs.size) { s₁ with heap:=s₁.heap.push { cls:=.type "tuple",data:=.seq vs.toArray } }) E s):wpAny M A (eval (.Tuple elts k pos) env) Q E s:=by
 rw [arm_eval_Tuple]
 exact wpAny_bind (wpAny_standAt (wpAny_bind (wpAny_mono h (fun vs s₁ h₁ => wpAny_newObj_type h₁.2 (by show vs.toArray.size ≤ sizeLine;rw [List.size_toArray];exact h₁.1)) fun _ _ x => x)))
theorem Zf4 {elts:List Expr} {pos:Pos} {Q:Value → Shared → Prop}
  (h:wpAny M A (spliced (backTo pos (starEach elts env))) (fun vs s₁ => vs.length ≤ sizeLine ∧ Q (.ref s₁.heap.objs.size) { s₁ with heap:=s₁.heap.push { cls:=.type "list",data:=.seq vs.toArray } }) E s):wpAny M A (eval (.List elts pos) env) Q E s:=by
 rw [arm_eval_List]
 exact wpAny_bind (wpAny_standAt (wpAny_bind (wpAny_mono h (fun vs s₁ h₁ => wpAny_newObj_type h₁.2 (by show vs.toArray.size ≤ sizeLine;rw [List.size_toArray];exact h₁.1)) fun _ _ x => x)))
theorem Zd8 {e:Expr} {whole:Sem Value} {Q:Bool → Shared → Prop} (h:wpAny M A whole (fun v s₁ => wpAny M A (truthy v) Q E s₁) E s)
  (he:isTrue e env whole = (do let v ← whole;standAt e.pos;holding [v] (truthy v))):wpAny M A (isTrue e env whole) Q E s:=by
 rw [he]
 exact wpAny_bind (wpAny_mono h (fun v s₁ h₁ => wpAny_bind (wpAny_standAt (wpAny_holding h₁))) fun _ _ x => x)
theorem Ze3 {x:Expr} {pos:Pos} {whole:Sem Value} {Q:Bool → Shared → Prop} (h:wpAny M A (isTrue x env (eval x env)) (fun b s₁ => Q (!b) s₁) E s):wpAny M A (isTrue (.UnaryOp .Not x pos) env whole) Q E s:=by
 rw [arm_isTrue_UnaryOp]
 exact wpAny_bind (wpAny_mono h (fun b s₁ h₁ => wpAny_pure h₁) fun _ _ x => x)
theorem ZdP {op:BoolOp} {values:List Expr} {pos:Pos} {whole:Sem Value} {Q:Bool → Shared → Prop} (h:wpAny M A (allTrue op values env) Q E s):wpAny M A (isTrue (.BoolOp op values pos) env whole) Q E s:=by
 rw [arm_isTrue_BoolOp];exact h
theorem wpAny_allTrue_And_nil {Q:Bool → Shared → Prop} (h:Q true s):wpAny M A (allTrue .And [] env) Q E s:=up (PySem.wpAny_allTrue_And_nil h)
theorem wpAny_allTrue_Or_nil {Q:Bool → Shared → Prop} (h:Q false s):wpAny M A (allTrue .Or [] env) Q E s:=up (PySem.wpAny_allTrue_Or_nil h)
theorem ZaX {x:Expr} {rest:List Expr} {Q:Bool → Shared → Prop}
  (h:wpAny M A (isTrue x env (eval x env)) (fun b s₁ => if b then wpAny M A (allTrue .And rest env) Q E s₁ else Q false s₁) E s):wpAny M A (allTrue .And (x :: rest) env) Q E s:=by
 show wpAny M A (do match BoolOp.And,← isTrue x env (eval x env) with | .And,false => pure false | .Or,true => pure true | _,_ => allTrue .And rest env) Q E s
 refine wpAny_bind (wpAny_mono h (fun b s₁ h₁ => ?_) fun _ _ x => x)
 cases b
 ·exact wpAny_pure h₁
 ·exact h₁
theorem Za8 {x:Expr} {rest:List Expr} {Q:Bool → Shared → Prop}
  (h:wpAny M A (isTrue x env (eval x env)) (fun b s₁ => if b then Q true s₁ else wpAny M A (allTrue .Or rest env) Q E s₁) E s):wpAny M A (allTrue .Or (x :: rest) env) Q E s:=by
 show wpAny M A (do match BoolOp.Or,← isTrue x env (eval x env) with | .And,false => pure false | .Or,true => pure true | _,_ => allTrue .Or rest env) Q E s
 refine wpAny_bind (wpAny_mono h (fun b s₁ h₁ => ?_) fun _ _ x => x)
 cases b
 ·exact h₁
 ·exact wpAny_pure h₁
theorem wpAny_execs_nil {Q:Flow → Shared → Prop} (h:Q .next s):wpAny M A (execs [] env) Q E s:=up (PySem.wpAny_execs_nil h)
theorem wpAny_execs_cons {st rest} {Q:Flow → Shared → Prop} (h:wpAny M A (exec st env) (fun f s' => match f with | .next => wpAny M A (execs rest env) Q E s' | f => Q f s') E s):wpAny M A (execs (st :: rest) env) Q E s:=by
 rw [execs_cons]
 refine wpAny_bind (wpAny_mono h (fun f s' h' => ?_) fun _ _ x => x)
 cases f <;> first | exact h' | exact wpAny_pure h'
theorem ZjN {pos} {Q:Flow → Shared → Prop} (h:Q .next s):wpAny M A (exec (.Pass pos) env) Q E s:=fun _ _ _ _ => h
theorem ZiL {pos} {Q:Flow → Shared → Prop} (h:Q .brk s):wpAny M A (exec (.Break pos) env) Q E s:=fun _ _ _ _ => h
theorem Zet {pos} {Q:Flow → Shared → Prop} (h:Q (.ret .none) s):wpAny M A (exec (.Return none pos) env) Q E s:=fun _ _ _ _ => h
theorem wpAny_Return_some {e pos} {Q:Flow → Shared → Prop} (h:wpAny M A (eval e env) (fun v => Q (.ret v)) E s):wpAny M A (exec (.Return (some e) pos) env) Q E s:=by
 rw [exec_Return_some]
 exact wpAny_bind (wpAny_standAt (wpAny_bind (wpAny_mono h (fun _ _ x => wpAny_pure x) fun _ _ x => x)))
theorem Zde {test body orelse pos} {Q:Flow → Shared → Prop}
  (h:wpAny M A (isTrue test env (eval test env)) (fun b s₂ => if b then wpAny M A (execs body env) Q E s₂ else wpAny M A (execs orelse env) Q E s₂) E s):wpAny M A (exec (.If test body orelse pos) env) Q E s:=by
 rw [exec_If]
 refine wpAny_bind (wpAny_standAt (wpAny_bind (wpAny_mono h (fun b s₁ h₁ => ?_) fun _ _ x => x)))
 cases b <;> exact h₁
theorem Zft {test body orelse pos} {Q:Flow → Shared → Prop}
  (h:codeAny M A (.whileLoop test body orelse env) (fun r s' => match r with | .ok f => Q f s' | .error e => cameBackBy M A env E e s') s):wpAny M A (exec (.While test body orelse pos) env) Q E s:=by
 rw [exec_While];exact wpAny_bind (wpAny_standAt (Zes h))
theorem Zhu {target iter body orelse pos} {Q:Flow → Shared → Prop}
  (h:wpAny M A (eval iter env) (fun x s₁ => wpAny M A (pyIter x) (fun it s₂ =>
   codeAny M A (.forLoop target it body orelse env) (fun r s' => match r with | .ok f => Q f s' | .error e => cameBackBy M A env E e s') s₂) E s₁) E s)
  (hs:∀ x,foldedSetIterable iter env x = pure x):wpAny M A (exec (.For target iter body orelse pos) env) Q E s:=by
 rw [exec_For]
 exact wpAny_bind (wpAny_standAt (wpAny_bind (wpAny_mono h (fun x s₁ h₁ => wpAny_bind (wpAny_of_eq (hs x) (wpAny_bind (wpAny_standAt (wpAny_bind (wpAny_holding
  (wpAny_mono h₁ (fun it s₂ h₂ => Zes h₂) fun _ _ h' => h'))))))) fun _ _ h' => h')))
theorem Zeu {x pos v} {Q:Unit → Shared → Prop} (h:wpAny M A (storeName env x v) Q E s):wpAny M A (assign (.Name x pos) env v) Q E s:=by
 rw [PySem.assign_Name];exact wpAny_bind (wpAny_standAt (ZbU h))
theorem Zv {targets:List Expr} {value:Expr} {pos:Pos} {Q:Flow → Shared → Prop}
  (h:wpAny M A (eval value env) (fun v s₁ => wpAny M A (assignAll v ((assignEach targets env).map (·.2))) (fun _ => Q .next) E s₁) E s)
  (hs:swapsWithSole targets value pos.line env = pure false) (hw:swappedStores targets value env = pure none):wpAny M A (exec (.Assign targets value pos) env) Q E s:=by
 rw [exec_Assign_arm]
 refine wpAny_bind (wpAny_standAt ?_)
 rw [hs]
 refine wpAny_bind (wpAny_pure ?_)
 rw [if_neg (by decide)]
 refine wpAny_bind (wpAny_mono h (fun v s₁ h₁ => ?_) fun _ _ x => x)
 rw [hw]
 refine wpAny_bind (wpAny_pure ?_)
 show wpAny M A (do assignAll v ((assignEach targets env).map (·.2));pure .next) Q E s₁
 exact wpAny_bind (wpAny_mono h₁ (fun _ _ x => wpAny_pure x) fun _ _ x => x)
theorem Zdf {x pos' op value pos} {Q:Flow → Shared → Prop}
  (h:wpAny M A (loadName env x) (fun old s₁ => wpAny M A (eval value env) (fun v s₂ => wpAny M A (inplaceOp op old v) (fun r s₃ => wpAny M A (storeName env x r) (fun _ => Q .next) E s₃) E s₂) E s₁) E s) :
  wpAny M A (exec (.AugAssign (.Name x pos') op value pos) env) Q E s:=by
 rw [exec_AugAssign_Name]
 exact wpAny_bind (wpAny_standAt (wpAny_bind (wpAny_mono h (fun old s₁ h₁ => wpAny_bind (wpAny_holding (wpAny_mono h₁ (fun v s₂ h₂ => wpAny_bind (wpAny_standAt (wpAny_bind (Z6 (wpAny_mono h₂ (fun r s₃ h₃ =>
  wpAny_bind (wpAny_standAt (wpAny_bind (ZbU (wpAny_mono h₃ (fun _ _ x => wpAny_pure x) fun _ _ x => x))))) fun _ _ x => x))))) fun _ _ x => x))) fun _ _ x => x)))
theorem ZbE {o value:Expr} {attr:Str} {tpos pos:Pos} {op:Operator} {Q:Flow → Shared → Prop}
  (h:wpAny M A (eval o env) (fun ov s₁ => wpAny M A (getAttr ov attr true) (fun old s₂ =>
     wpAny M A (eval value env) (fun v s₃ => wpAny M A (inplaceOp op old v) (fun new s₄ => wpAny M A (setAttr ov attr new) (fun _ => Q .next) E s₄) E s₃) E s₂) E s₁) E s) :
  wpAny M A (exec (.AugAssign (.Attribute o attr tpos) op value pos) env) Q E s:=by
 show wpAny M A (do
   standAt pos
   let ov ← eval o env
   let new ← holding [ov] do
    standAt tpos.atName
    let old ← getAttr ov attr true
    let v ← holding [old] (eval value env)
    standAt pos
    operate [old,v] (inplaceOp op old v)
   standAt tpos.atName
   holding [new,ov] (setAttr ov attr new)
   release [new,ov] []
   pure .next) Q E s
 exact wpAny_bind (wpAny_standAt (wpAny_bind (wpAny_mono h (fun ov s₁ h₁ => wpAny_bind (wpAny_holding (wpAny_bind (wpAny_standAt (wpAny_bind (wpAny_mono h₁ (fun old s₂ h₂ => wpAny_bind (wpAny_holding (wpAny_mono h₂ (fun v s₃ h₃ =>
  wpAny_bind (wpAny_standAt (Z6 (wpAny_mono h₃ (fun new s₄ h₄ => wpAny_bind (wpAny_standAt (wpAny_bind (wpAny_holding (wpAny_mono h₄ (fun _ _ h₅ => wpAny_bind (wpAny_release (wpAny_pure h₅))) fun _ _ x => x))))) fun _ _ x => x)))) fun _ _ x => x))) fun _ _ x => x)))))) fun _ _ x => x)))
theorem ZiM {lower upper step:Option Expr} {p:Pos} {Q:Value → Shared → Prop}
  (h:wpAny M A (evalPart lower env) (fun l s₁ => wpAny M A (evalPart upper env) (fun u s₂ => wpAny M A (evalPart step env) (fun st s₃ =>
   Q (.ref s₃.heap.objs.size) { s₃ with heap:=s₃.heap.push { cls:=.type "slice",data:=.fields #[l,u,st] } }) E s₂) E s₁) E s):wpAny M A (eval (.Slice lower upper step p) env) Q E s:=by
 rw [arm_eval_Slice]
 refine wpAny_bind (wpAny_mono h (fun l s₁ h₁ => wpAny_bind (wpAny_holding (wpAny_mono h₁ (fun u s₂ h₂ => wpAny_bind (wpAny_holding (wpAny_mono h₂ (fun st s₃ h₃ => ?_) fun _ _ x => x))) fun _ _ x => x))) fun _ _ x => x)
 exact wpAny_newObj_type h₃
theorem Zf5 {value slice pos} {Q:Value → Shared → Prop}
  (h:wpAny M A (eval value env) (fun o s₁ => wpAny M A (eval slice env) (fun i s₂ => wpAny M A (subscriptTail value slice o i) Q E s₂) E s₁) E s):wpAny M A (eval (.Subscript value slice pos) env) Q E s:=by
 rw [eval_Subscript]
 exact wpAny_bind (wpAny_mono h (fun o s₁ h₁ => wpAny_bind (wpAny_holding (wpAny_mono h₁ (fun i s₂ h₂ => wpAny_bind (wpAny_standAt h₂)) fun _ _ x => x))) fun _ _ x => x)
theorem ZaO {x:Str} {p pos:Pos} {args:List Expr} {trees:List (Bool × Sem Value)} {Q:Value → Shared → Prop} (ht:backTo pos (starEach args env) = trees)
  (h:wpAny M A (eval (.Name x p) env) (fun f s₁ => wpAny M A (callWith pos f [] trees []) Q E s₁) E s):wpAny M A (eval (.Call (.Name x p) args [] pos) env) Q E s:=by
 subst ht
 exact wpAny_bind h
end
section
variable {prog:Program} {w:World} {A:Around} {E:Value → Shared → Prop} {s:Shared} {env:Env}
theorem wpAny_letTemporaryGo {base:Expr} {o r:Value} {Q:Unit → Shared → Prop} (h:Q () s):wpAny (model prog w) A (letTemporaryGo base o r) Q E s:=up (PySem.wpAny_letTemporaryGo h)
theorem Zdg {e pos} {Q:Flow → Shared → Prop} (h:wpAny (model prog w) A (eval e env) (fun _ => Q .next) E s)
  (hi:interactive env = false) (hs:swapsWith e none pos.line env = pure false):wpAny (model prog w) A (exec (.Expr e pos) env) Q E s:=by
 rw [exec_Expr env e pos hi hs]
 exact wpAny_bind (wpAny_standAt (wpAny_bind (wpAny_mono h (fun v s' h' => up (wpAny_dropValue h')) fun _ _ x => x)))
theorem ZbV {elts:List Expr} {x1} {pos:Pos} {t:Addr} {items:Array Value} {Q:Unit → Shared → Prop} (hh:A.handled = none) (ht:s.heap.IsTuple t items)
  (hn:(assignEach elts env).length = items.size) (hstar:(assignEach elts env).findIdx? (·.1) = none)
  (h:∀ h',Heap.ExtBut s.heap.objs.size s.heap h' → wpAny (model prog w) A (assignInOrder ((assignEach elts env).map (·.2)) items.toList) Q E { s with heap:=h' }) :
  wpAny (model prog w) A (assign (.Tuple elts x1 pos) env (.ref t)) Q E s:=by
 rw [arm_assign_Tuple]
 refine wpAny_bind (wpAny_standAt ?_)
 unfold unpack
 rw [hn,hstar]
 exact wpAny_bind (wpAny_holding (up (wpAny_unpackItems_tuple hh ht h)))
end
end Mine
end
namespace Mine
inductive V where
 | none | bool (b:Bool) | int (i:Int) | bytes (ks:List Int) | tup (vs:List V) | flst (vs:List V) | ref (k:Nat) | ext (v:Value)
 deriving Inhabited
inductive AO where
 | list (vs:List V) | barr (ks:List Int) | inst (C:Addr) (fs:List (Nat × V)) | dictB | rng (x y z:Int)
 deriving Inhabited
noncomputable abbrev Z2:=Addr → Option Obj
mutual
inductive VR (ι:List (Addr × Addr)) (P:Z2):V → Value → Prop
 | none:VR ι P .none .none
 | bool {b}:VR ι P (.bool b) (.bool b)
 | int {i t}:VR ι P (.int i) (.int i t)
 | bytes {b t ks}:KBw.bInts b = ks → VR ι P (.bytes ks) (.bytes b t)
 | tup {a items n vs}:P a = some { cls:=.type "tuple",data:=.seq items n } → VRs ι P vs items.toList → VR ι P (.tup vs) (.ref a)
 | flst {a items n vs}:P a = some { cls:=.type "list",data:=.seq items n } → VRs ι P vs items.toList → VR ι P (.flst vs) (.ref a)
 | ref {k a d}:ι[k]? = some (a,d) → VR ι P (.ref k) (.ref a)
 | ext {v}:VR ι P (.ext v) v
inductive VRs (ι:List (Addr × Addr)) (P:Z2):List V → List Value → Prop
 | nil:VRs ι P [] []
 | cons {x y xs ys}:VR ι P x y → VRs ι P xs ys → VRs ι P (x :: xs) (y :: ys)
end
theorem Zax {f g:Addr → Option Obj} {x:Addr} (k:∀ b o,f b = some o → g b = some o) (n:g x = none):f x = none:=by
 cases q:f x with
 | none => rfl
 | some o => exact nomatch (k _ _ q).symm.trans n
theorem Zr {f:Addr → Option Obj} {a x:Addr} {o:Obj} (h:f a = some o) (z:f x = none):a ≠ x:=fun q => by rw [q,z] at h;cases h
noncomputable def FrzLe (P P':Z2):Prop:=∀ b o,P b = some o → P' b = some o
theorem FrzLe.refl (P:Z2):FrzLe P P:=fun _ _ h => h
theorem FrzLe.trans {P Q R:Z2} (a:FrzLe P Q) (b:FrzLe Q R):FrzLe P R:=fun x o h => b x o (a x o h)
theorem ZbL {α:Type} {l l':List α} (h:l <+: l') {k:Nat} {x:α} (e:l[k]? = some x):l'[k]? = some x:=by
 obtain ⟨t,rfl⟩:=h
 rw [List.getElem?_append_left (by
  exact (List.getElem?_eq_some_iff.mp e).1)]
 exact e
section
variable {ι ι':List (Addr × Addr)} {P P':Z2}
theorem VR.imp (hP:∀ b c items n,P b = some { cls:=c,data:=.seq items n } → P' b = some { cls:=c,data:=.seq items n }) (hi:∀ (k:Nat) (a d:Addr),ι[k]? = some (a,d) → ι'[k]? = some (a,d)) {v:V} {x:Value} (h:VR ι P v x):VR ι' P' v x :=
 VR.rec (motive_1:=fun v x _ => VR ι' P' v x) (motive_2:=fun v x _ => VRs ι' P' v x) .none .bool .int .bytes (fun h _ ih => .tup (hP _ _ _ _ h) ih) (fun h _ ih => .flst (hP _ _ _ _ h) ih) (fun h => .ref (hi _ _ _ h)) .ext .nil (fun _ _ => .cons) h
theorem VRs.imp (hP:∀ b c items n,P b = some { cls:=c,data:=.seq items n } → P' b = some { cls:=c,data:=.seq items n }) (hi:∀ (k:Nat) (a d:Addr),ι[k]? = some (a,d) → ι'[k]? = some (a,d)) {v:List V} {x:List Value} (h:VRs ι P v x):VRs ι' P' v x :=
 VRs.rec (motive_1:=fun v x _ => VR ι' P' v x) (motive_2:=fun v x _ => VRs ι' P' v x) .none .bool .int .bytes (fun h _ ih => .tup (hP _ _ _ _ h) ih) (fun h _ ih => .flst (hP _ _ _ _ h) ih) (fun h => .ref (hi _ _ _ h)) .ext .nil (fun _ _ => .cons) h
theorem VR.mono (hi:ι <+: ι') (hP:FrzLe P P') {v:V} {x:Value} (h:VR ι P v x):VR ι' P' v x:=h.imp (fun _ _ _ _ => hP _ _) fun _ _ _ => ZbL hi
theorem VRs.mono (hi:ι <+: ι') (hP:FrzLe P P') {v:List V} {x:List Value} (h:VRs ι P v x):VRs ι' P' v x:=h.imp (fun _ _ _ _ => hP _ _) fun _ _ _ => ZbL hi
noncomputable def VRI (ι:List (Addr × Addr)) (P:Z2):V → Value → Prop
 | .none,x => x = .none
 | .bool b,x => x = .bool b
 | .int i,x => ∃ t,x = .int i t
 | .bytes ks,x => ∃ b t,x = .bytes b t ∧ KBw.bInts b = ks
 | .tup vs,x => ∃ a items n,x = .ref a ∧ P a = some { cls:=.type "tuple",data:=.seq items n } ∧ VRs ι P vs items.toList
 | .flst vs,x => ∃ a items n,x = .ref a ∧ P a = some { cls:=.type "list",data:=.seq items n } ∧ VRs ι P vs items.toList
 | .ref k,x => ∃ a d,x = .ref a ∧ ι[k]? = some (a,d)
 | .ext v,x => x = v
theorem VR.inv {v:V} {x:Value} (h:VR ι P v x):VRI ι P v x:=by
 cases h with
 | none => rfl
 | bool => rfl
 | int => exact ⟨_,rfl⟩
 | bytes h => exact ⟨_,_,rfl,h⟩
 | tup h k => exact ⟨_,_,_,rfl,h,k⟩
 | flst h k => exact ⟨_,_,_,rfl,h,k⟩
 | ref h => exact ⟨_,_,rfl,h⟩
 | ext => rfl
noncomputable def Zrv (ι:List (Addr × Addr)) (P:Z2):List V → List Value → Prop
 | [],x => x = []
 | a :: v,x => ∃ b y,x = b :: y ∧ VR ι P a b ∧ VRs ι P v y
theorem VRs.invI {v:List V} {x:List Value} (h:VRs ι P v x):Zrv ι P v x:=by
 cases h with
 | nil => rfl
 | cons h k => exact ⟨_,_,rfl,h,k⟩
theorem VRs.inv {a:V} {v:List V} {x:List Value} (h:VRs ι P (a :: v) x):∃ b y,x = b :: y ∧ VR ι P a b ∧ VRs ι P v y:=h.invI
theorem VRs.inv0 {x:List Value} (h:VRs ι P [] x):x = []:=h.invI
theorem VR.int' {i:Int} {x:Value} (h:VR ι P (.int i) x):∃ t,x = .int i t:=h.inv
theorem VR.bytes' {ks:List Int} {x:Value} (h:VR ι P (.bytes ks) x):∃ b t,x = .bytes b t ∧ KBw.bInts b = ks:=h.inv
theorem VR.none' {x:Value} (h:VR ι P .none x):x = .none:=h.inv
theorem VR.bool' {b:Bool} {x:Value} (h:VR ι P (.bool b) x):x = .bool b:=h.inv
theorem VR.ref' {k:Nat} {x:Value} (h:VR ι P (.ref k) x):∃ a d,x = .ref a ∧ ι[k]? = some (a,d):=h.inv
theorem VR.ext' {v x:Value} (h:VR ι P (.ext v) x):x = v:=h.inv
theorem VR.tup' {vs:List V} {x:Value} (h:VR ι P (.tup vs) x):∃ a items n,x = .ref a ∧ P a = some { cls:=.type "tuple",data:=.seq items n } ∧ VRs ι P vs items.toList:=h.inv
theorem VR.flst' {vs:List V} {x:Value} (h:VR ι P (.flst vs) x):∃ a items n,x = .ref a ∧ P a = some { cls:=.type "list",data:=.seq items n } ∧ VRs ι P vs items.toList:=h.inv
theorem VRs.length {v:List V} {x:List Value} (h:VRs ι P v x):v.length = x.length:=by
 induction v generalizing x with
 | nil => rw [h.inv0];rfl
 | cons a v ih =>
  obtain ⟨b,y,rfl,_,k⟩:=h.inv
  exact congrArg (· + 1) (ih k)
theorem VRs.get {v:List V} {x:List Value} (h:VRs ι P v x) {i:Nat} {a:V} (e:v[i]? = some a):∃ b,x[i]? = some b ∧ VR ι P a b:=by
 induction v generalizing x i with
 | nil => cases e
 | cons a' v ih =>
  obtain ⟨b,y,rfl,q,k⟩:=h.inv
  cases i with
  | zero => cases e;exact ⟨b,rfl,q⟩
  | succ i => exact ih k e
theorem VRs.append {v w:List V} {x y:List Value} (h:VRs ι P v x) (k:VRs ι P w y):VRs ι P (v ++ w) (x ++ y):=by
 induction v generalizing x with
 | nil => rw [h.inv0];exact k
 | cons a v ih =>
  obtain ⟨b,z,rfl,q,r⟩:=h.inv
  exact .cons q (ih r)
theorem VRs.snoc {v:List V} {x:List Value} {a:V} {b:Value} (h:VRs ι P v x) (k:VR ι P a b):VRs ι P (v ++ [a]) (x ++ [b]):=h.append (.cons k .nil)
theorem VRs.reverse {v:List V} {x:List Value} (h:VRs ι P v x):VRs ι P v.reverse x.reverse:=by
 induction v generalizing x with
 | nil => rw [h.inv0];exact .nil
 | cons a v ih =>
  obtain ⟨b,z,rfl,q,r⟩:=h.inv
  rw [List.reverse_cons,List.reverse_cons]
  exact (ih r).snoc q
theorem VRs.drop (n:Nat) {v:List V} {x:List Value} (h:VRs ι P v x):VRs ι P (v.drop n) (x.drop n):=by
 induction n generalizing v x with
 | zero => exact h
 | succ n ih =>
  cases v with
  | nil => rw [h.inv0];exact .nil
  | cons a v =>
   obtain ⟨b,z,rfl,q,r⟩:=h.inv
   exact ih r
theorem VRs.take (n:Nat) {v:List V} {x:List Value} (h:VRs ι P v x):VRs ι P (v.take n) (x.take n):=by
 induction n generalizing v x with
 | zero => exact .nil
 | succ n ih =>
  cases v with
  | nil => rw [h.inv0];exact .nil
  | cons a v =>
   obtain ⟨b,z,rfl,q,r⟩:=h.inv
   exact .cons q (ih r)
end
noncomputable def Za (ns:List Int):List V:=ns.map .int
theorem VRs.ints {ι P} {ns:List Int} {x:List Value} (h:VRs ι P (Za ns) x):IntsAre x ns:=by
 induction ns generalizing x with
 | nil => rw [VRs.inv0 h];constructor
 | cons n ns ih =>
  obtain ⟨b,z,rfl,q,r⟩:=VRs.inv h
  obtain ⟨t,rfl⟩:=q.int'
  exact IntsAre.cons n t (ih r)
inductive FRs (ι:List (Addr × Addr)) (P:Z2):List (Nat × V) → List DictEntry → Prop
 | nil:FRs ι P [] []
 | cons {c:Nat} {v:V} {nm:Str} {t:Tok} {hsh:Int} {x:Value} {fs:List (Nat × V)} {es:List DictEntry}:AN[c]? = some nm → VR ι P v x → FRs ι P fs es → FRs ι P ((c,v) :: fs) (⟨hsh,.str nm t,x⟩ :: es)
theorem FRs.imp {ι ι':List (Addr × Addr)} {P P':Z2} (hP:∀ b c items n,P b = some { cls:=c,data:=.seq items n } → P' b = some { cls:=c,data:=.seq items n }) (hi:∀ (k:Nat) (a d:Addr),ι[k]? = some (a,d) → ι'[k]? = some (a,d)) {fs:List (Nat × V)} {es:List DictEntry} (h:FRs ι P fs es):FRs ι' P' fs es :=
 h.rec .nil fun a b _ c => .cons a (b.imp hP hi) c
theorem FRs.mono {ι ι':List (Addr × Addr)} {P P':Z2} (hi:ι <+: ι') (hP:FrzLe P P') {fs:List (Nat × V)} {es:List DictEntry} (h:FRs ι P fs es):FRs ι' P' fs es:=h.imp (fun _ _ _ _ => hP _ _) fun _ _ _ => ZbL hi
noncomputable def AOR (ι:List (Addr × Addr)) (P:Z2) (h:Heap):AO → Addr → Addr → Prop
 | .list vs,a,d => d = a ∧ ∃ items n,h.get? a = some { cls:=.type "list",data:=.seq items n } ∧ VRs ι P vs items.toList
 | .barr ks,a,d => d = a ∧ ∃ b,h.get? a = some { cls:=.type "bytearray",data:=.bytearray b 0 } ∧ KBw.bInts b = ks
 | .inst C fs,a,d => h.get? a = some (instObj C d) ∧ ∃ es n,h.get? d = some (dictOf es n) ∧ FRs ι P fs es
 | .dictB,a,d => d = a ∧ ∃ es n,h.get? a = some (dictOf es n)
 | .rng x y z,a,d => d = a ∧ ∃ t u v,IsRange h a x y z t u v
structure Sep (ι:List (Addr × Addr)) (P:Z2) (L:Addr):Prop where
 PL:P L = none
 off:∀ (k:Nat) (a d:Addr),ι[k]? = some (a,d) → P a = none ∧ P d = none ∧ a ≠ L ∧ d ≠ L
 apart:∀ (k k':Nat) (a d a' d':Addr),ι[k]? = some (a,d) → ι[k']? = some (a',d') → k ≠ k' → a ≠ a' ∧ a ≠ d' ∧ d ≠ a' ∧ d ≠ d'
structure St (h₀:Heap) (L:Addr) (N:List Str) (ρ:List (Option V)) (ι:List (Addr × Addr)) (P:Z2) (σ:List AO) (h:Heap):Prop where
 base:∀ b o,h₀.get? b = some o → P b = some o
 keep:∀ b o,P b = some o → h.get? b = some o
 ns:∃ m,h.Ns L m ∧ ∀ (i:Nat) (n:Str) (v:V),N[i]? = some n → ρ[i]? = some (some v) → ∃ v',m n = some v' ∧ VR ι P v v'
 len:ι.length = σ.length
 objs:∀ (k:Nat) (ao:AO) (a d:Addr),σ[k]? = some ao → ι[k]? = some (a,d) → AOR ι P h ao a d
 sep:Sep ι P L
theorem AOR.live {ι P h ao a d} (x:AOR ι P h ao a d):(∃ o,h.get? a = some o) ∧ ∃ o,h.get? d = some o:=by
 cases ao with
 | list vs => obtain ⟨rfl,_,_,e,_⟩:=x;exact ⟨⟨_,e⟩,_,e⟩
 | barr ks => obtain ⟨rfl,_,e,_⟩:=x;exact ⟨⟨_,e⟩,_,e⟩
 | inst C fs => obtain ⟨e,_,_,e',_⟩:=x;exact ⟨⟨_,e⟩,_,e'⟩
 | dictB => obtain ⟨rfl,_,_,e⟩:=x;exact ⟨⟨_,e⟩,_,e⟩
 | rng => obtain ⟨rfl,_,_,_,e⟩:=x;exact ⟨⟨_,e⟩,_,e⟩
theorem AOR.same {ι ι' P P' h h' ao a d} (hi:ι <+: ι') (hP:FrzLe P P') (ha:∀ o,h.get? a = some o → h'.get? a = some o) (hd:∀ o,h.get? d = some o → h'.get? d = some o) (x:AOR ι P h ao a d):AOR ι' P' h' ao a d:=by
 cases ao with
 | list vs => obtain ⟨e1,items,n,e2,e3⟩:=x;exact ⟨e1,items,n,ha _ e2,e3.mono hi hP⟩
 | barr ks => obtain ⟨e1,b,e2,e3⟩:=x;exact ⟨e1,b,ha _ e2,e3⟩
 | inst C fs =>
  obtain ⟨e1,es,n,e2,e3⟩:=x
  exact ⟨ha _ e1,es,n,hd _ e2,e3.mono hi hP⟩
 | dictB => obtain ⟨e1,es,n,e2⟩:=x;exact ⟨e1,es,n,ha _ e2⟩
 | rng => obtain ⟨e1,t,u,v,e2⟩:=x;exact ⟨e1,t,u,v,ha _ e2⟩
section
variable {h₀:Heap} {L:Addr} {N:List Str} {ρ:List (Option V)} {ι:List (Addr × Addr)} {P:Z2} {σ:List AO} {h:Heap}
theorem St.liveL (S:St h₀ L N ρ ι P σ h):∃ o,h.get? L = some o:=by
 obtain ⟨m,⟨o,es,n,e,_⟩,_⟩:=S.ns
 exact ⟨o,e⟩
theorem St.ltL (S:St h₀ L N ρ ι P σ h):L < h.objs.size:=let ⟨_,e⟩:=S.liveL;Heap.lt_size e
theorem St.obj (S:St h₀ L N ρ ι P σ h) {k:Nat} {ao:AO} (e:σ[k]? = some ao):∃ a d,ι[k]? = some (a,d) ∧ AOR ι P h ao a d:=by
 have hk:k < ι.length:=by
  rw [S.len]
  exact (List.getElem?_eq_some_iff.mp e).1
 refine ⟨ι[k].1,ι[k].2,by rw [List.getElem?_eq_getElem hk],S.objs k ao _ _ e (by rw [List.getElem?_eq_getElem hk])⟩
theorem St.objOf (S:St h₀ L N ρ ι P σ h) {k:Nat} {a d:Addr} (e:ι[k]? = some (a,d)):∃ ao,σ[k]? = some ao ∧ AOR ι P h ao a d:=by
 have hk:k < σ.length:=by
  rw [← S.len]
  exact (List.getElem?_eq_some_iff.mp e).1
 exact ⟨σ[k],by rw [List.getElem?_eq_getElem hk],S.objs k _ a d (by rw [List.getElem?_eq_getElem hk]) e⟩
theorem St.keep0 (S:St h₀ L N ρ ι P σ h):∀ b o,h₀.get? b = some o → h.get? b = some o:=fun b o e => S.keep b o (S.base b o e)
theorem St.ext (S:St h₀ L N ρ ι P σ h) {h':Heap} (k:∀ b o,h.get? b = some o → h'.get? b = some o):St h₀ L N ρ ι P σ h':=by
 obtain ⟨m,hm,hv⟩:=S.ns
 exact ⟨S.base,fun b o e => k _ _ (S.keep b o e),⟨m,hm.keeps k,hv⟩,S.len,fun i ao a d e1 e2 => (S.objs i ao a d e1 e2).same (List.prefix_refl _) (.refl _) (fun _ e => k _ _ e) (fun _ e => k _ _ e),S.sep⟩
theorem St.push (S:St h₀ L N ρ ι P σ h) (o:Obj):St h₀ L N ρ ι P σ (h.push o):=S.ext fun _ _ e => Heap.get?_push_of_some o e
theorem St.setLoc (S:St h₀ L N ρ ι P σ h) {h':Heap} {m:Str → Option Value} {i:Nat} {n:Str} {v:V} {v':Value} (hN:N.Nodup) (hi:N[i]? = some n)
  (hm:h.Ns L m) (hv:∀ (i:Nat) (n:Str) (v:V),N[i]? = some n → ρ[i]? = some (some v) → ∃ v',m n = some v' ∧ VR ι P v v')
  (hm':h'.Ns L (fun y => if y = n then some v' else m y)) (hs:Heap.SameBut L h h') (hr:VR ι P v v'):St h₀ L N (ρ.set i (some v)) ι P σ h':=by
 have k:∀ b o,b ≠ L → h.get? b = some o → h'.get? b = some o:=fun b o hb e => (hs.2 b hb).trans e
 refine ⟨S.base,fun b o e => k b o (fun q => ?_) (S.keep b o e),⟨_,hm',fun j x v₁ e1 e2 => ?_⟩,S.len,fun j ao a d e1 e2 => ?_,S.sep⟩
 ·subst q;rw [S.sep.PL] at e;cases e
 ·by_cases hj:j = i
  ·subst hj
   rw [hi] at e1;cases e1
   rw [List.getElem?_set_self'] at e2
   have:v₁ = v:=by
    cases q:ρ[j]? with
    | none => rw [q] at e2;simp at e2
    | some y => rw [q] at e2;simpa using e2.symm
   subst this
   exact ⟨v',by simp,hr⟩
  ·rw [List.getElem?_set_ne (Ne.symm hj)] at e2
   obtain ⟨w,hw,hw'⟩:=hv j x v₁ e1 e2
   have hne:x ≠ n:=fun q => by
    subst q
    have h1:j < N.length:=by
     exact (List.getElem?_eq_some_iff.mp e1).1
    exact hj ((List.getElem?_inj h1 hN).mp (by rw [e1,hi]))
   exact ⟨w,by simp [hne,hw],hw'⟩
 ·have o:=S.sep.off j a d e2
  exact (S.objs j ao a d e1 e2).same (List.prefix_refl _) (.refl _) (fun x e => k _ _ o.2.2.1 e) (fun x e => k _ _ o.2.2.2 e)
end
noncomputable abbrev pw:Program:=PySem.Challenge.pw_nt0666_01
structure FnInfo where
 name:Str
 qual:Str
 args:Arguments
 body:List Stmt
 scope:Scope
noncomputable def ZiN (pre:Str):Stmt → Option FnInfo
 | .FunctionDef n a b _ _ _ sc _ _ _ => some ⟨n,pre ++ n,a,b,sc⟩
 | _ => none
noncomputable def ZdQ (i:Nat) (j:Option Nat):Option FnInfo:=match pw.main.body[i]?,j with
 | some s,none => ZiN Str.empty s
 | some (.ClassDef c _ _ b _ _ _ _ _ _ _),some j => (b[j]?).bind (ZiN (c ++ Str.ofString "."))
 | _,_ => none
noncomputable def FnHere (h:Heap) (a:Addr) (fi:FnInfo):Prop :=
 ∃ pm cdv oc osl,h.get? a = some ⟨oc,none,.func (fnOf fi.name fi.qual fi.args fi.body fi.scope .none .none .none pm none cdv .none),osl⟩ ∧ h.CodeRec cdv fi.qual
noncomputable def FT:List (Nat × Nat × Option Nat):=[(21,0,none),(43,3,some 1),(50,3,some 2),(71,4,some 0),(96,6,none),(103,7,none),(110,8,none),(117,10,none),(124,11,none),(131,12,none),(138,13,none),(145,14,none),(152,15,none),(159,16,none),(166,17,none),(173,18,none),(180,19,none),(187,20,none),(194,21,none),(201,34,none),(208,36,none),(215,37,none),(229,38,some 0),(236,38,some 1),(243,38,some 2),(250,38,some 3),(257,38,some 4),(264,38,some 5),(271,38,some 6),(278,38,some 7),(285,38,some 8),(299,39,none),(306,40,none),(320,41,some 0),(327,41,some 1),(334,41,some 2),(341,41,some 3),(348,41,some 4),(362,42,none),(369,43,none),(376,44,none),(385,77,none),(392,79,none),(399,80,none),(406,81,none),(413,83,none),(420,84,none),(427,85,none),(434,86,none),(441,87,none),(455,88,some 0),(476,89,some 0),(483,89,some 1),(490,89,some 2),(497,89,some 3),(504,89,some 4),(511,89,some 5),(518,89,some 6),(525,89,some 7),(532,89,some 8),(539,89,some 9),(546,89,some 10),(553,89,some 11),(560,89,some 12),(567,89,some 13),(574,89,some 14),(581,89,some 15),(588,89,some 16),(595,89,some 17),(602,89,some 18),(609,89,some 19),(616,89,some 20),(623,89,some 21),(630,89,some 22),(637,89,some 23),(644,89,some 24),(651,89,some 25),(658,89,some 26),(672,90,none),(679,94,none),(686,95,none),(704,97,none),(711,98,none),(718,99,none),(725,100,none),(732,101,none),(739,102,none),(746,103,none),(753,104,none),(760,105,none),(765,106,none)]
noncomputable def fa (a:Nat):V:=.ext (.ref a)
noncomputable def GV:List V:=[fa 110,fa 117,fa 124,fa 131,fa 138,fa 145,fa 152,fa 159,fa 166,fa 173,fa 180,fa 187,fa 194,fa 96,fa 103,.bytes [32,9,10,11,12,13],fa 53,fa 74,fa 201,fa 208,fa 215,fa 288,.int 45,.int 43,.int 32,.int 48,.int 35,.bytes [48,49,50,51,52,53,54,55,56,57,97,98,99,100,101,102],.bytes [48,49,50,51,52,53,54,55,56,57,65,66,67,68,69,70],.int 100,fa 299,fa 306,.bytes [45,43,32,35,48],.int 46,fa 351,fa 362,fa 369,.int 37,fa 376,.flst [.bytes [97,110,100],.bytes [98,114,101,97,107],.bytes [100,111],.bytes [101,108,115,101],.bytes [101,108,115,101,105,102],.bytes [101,110,100],.bytes [102,97,108,115,101],.bytes [102,111,114],.bytes [102,117,110,99,116,105,111,110],.bytes [105,102],.bytes [105,110],.bytes [108,111,99,97,108],.bytes [110,105,108],.bytes [110,111,116],.bytes [111,114],.bytes [114,101,112,101,97,116],.bytes [114,101,116,117,114,110],.bytes [116,104,101,110],.bytes [116,114,117,101],.bytes [117,110,116,105,108],.bytes [119,104,105,108,101]],.int 257,fa 385,.int 2147483645,fa 420,fa 406,fa 427,fa 434,fa 458,fa 661,.int (-1),.int 287,.int 286,.int 34,.int 39,.int 45,.int 10,.int 13,.int 92,.int 80,fa 672,.bytes [45,43,32,35,48],.bytes [100,105,117,111,120,88,99,115,113],fa 679,fa 686,.flst [.tup [.bytes [37,121],.flst [.int 1]],.tup [.bytes [37,45,45,45,45,45,45,100],.flst [.int 1]],.tup [.bytes [37,49,50,51,100],.flst [.int 1]],.tup [.bytes [37,100],.flst []],.tup [.bytes [37,32,45,53,46,50,100],.flst [.bytes [122,122]]]],fa 704,fa 711,fa 718,fa 725,fa 732,fa 739,fa 746,fa 753,fa 760]
noncomputable def KT:List (Addr × Addr × List Nat × List (Nat × Addr)):=[(53,36,[0,1,2,3,4,5,6,7,8,9],[]),(288,229,[10,0,11,12],[(33,236),(34,243),(35,250),(36,257),(37,264),(38,271),(39,278),(40,285)]),
 (351,320,[13,14],[(16,327),(41,334),(9,341),(42,348)]),(458,455,[15,16],[]),
 (661,476,[9,18,19,14,20,21,22,23,24,25,26,27],[(43,483),(44,497),(45,518),(46,525),(47,532),(55,539),(48,546),(56,553),(49,560),(50,567),(58,574),(57,581),(51,644),(52,651),(53,658),(54,511)])]
noncomputable def KFc (K:Frag) (e:Addr × Addr × List Nat × List (Nat × Addr)):Bool:=match e with
 | (C,fI,fs,ms) => makesIn K C && hasDictIn K C && plainOver K C && findIn K (.ref C) "__getattribute__" == some (some (.builtin "object.__getattribute__")) && findIn K (.ref C) "__getattr__" == some none &&
  findIn K (.ref C) "__setattr__" == some (some (.builtin "object.__setattr__")) && findIn K (.ref C) "__init__" == some (some (.ref fI)) && typeIn K (.ref fI) == some (.type "function") &&
  fs.all (fun c => (AN[c]?).any fun n => findIn K (.ref C) n == some none) && ms.all (fun p => (AN[p.1]?).any fun n => findIn K (.ref C) n == some (some (.ref p.2)) && typeIn K (.ref p.2) == some (.type "function"))
noncomputable def KF (K:Frag):Bool:=KT.all (KFc K)
noncomputable def excFree:List Str:=["value","trace","__setattr__","__getattribute__","__del__","__dict__"]
structure Glob (w:World) (h₀:Heap):Prop where
 kin:∃ K:Frag,K.In h₀ ∧ KF K = true
 lim:h₀.NoLimit
 own:∃ mg,h₀.Ns mainGlobals mg ∧ (∀ (i:Nat) (n:Str) (v:V),GN[i]? = some n → GV[i]? = some v → ∃ x,mg n = some x ∧ VR [] h₀.get? v x) ∧ ∀ n ∈ BN,mg n = none
 blt:∃ mb,h₀.Ns builtinsNs mb ∧ ∀ n ∈ BN,mb n = bootBuiltins n
 init:∃ fi pm cdv oc osl,ZdQ 3 (some 0) = some fi ∧ h₀.get? 36 = some ⟨oc,none,.func (fnOf fi.name fi.qual fi.args fi.body fi.scope (.ref 29) .none .none pm none cdv .none),osl⟩ ∧ h₀.CodeRec cdv fi.qual
 dflt:∃ items n,h₀.get? 29 = some { cls:=.type "tuple",data:=.seq items n } ∧ IntsAre items.toList [64,250,60,200,40,200,2000,50,1000000000,1000000]
 fn:∀ (a i:Nat) (j:Option Nat) (fi:FnInfo),(a,i,j) ∈ FT → ZdQ i j = some fi → FnHere h₀ a fi
 exc:∃ nm q bs sub ab col dd k0 k1 k2 k3 k5,h₀.get? 74 = some (excClassObj nm q 74 73 bs [.type "Exception",.type "BaseException",.type "object"] true [] sub ab col dd k0 k1 k2 k3 k5 "Exception.__new__")
 excFn:∃ o,h₀.get? 71 = some o ∧ o.cls = .type "function"
 excNs:∃ mN,h₀.Ns 73 mN ∧ mN "__init__" = some (.ref 71) ∧ ∀ n ∈ excFree,mN n = none
structure Rm (w:World) (h₀:Heap) (A:Around) (d:Nat):Prop where
 gl:Glob w h₀
 depth:A.depth + 2 * d + 4 ≤ recursionLimit
 units:A.units + 8 * d + 70 ≤ cLine
 hand:A.handled = none
structure Fx (w:World) (h₀:Heap) (A:Around) (env:Env) (sc:Scope) (d:Nat):Prop extends Rm w h₀ A d where
 scope:env.scope = sc
 kind:sc.kind = .function
 nodup:(Zs sc).Nodup
 globals:env.globals = mainGlobals
 builtins:env.builtins = builtinsNs
structure Cx where
 w:World
 h₀:Heap
 A:Around
 L:Addr
 N:List Str
 ρ:List (Option V)
 E:Value → Shared → Prop
noncomputable abbrev Ix:=List (Addr × Addr)
noncomputable abbrev Aft (c:Cx) (ι:Ix) (P:Z2) (σ':List AO) (s:Shared) (R:Ix → Z2 → Shared → Prop):Prop :=
 ∀ ι' P' h' tk,ι <+: ι' → FrzLe P P' → St c.h₀ c.L c.N c.ρ ι' P' σ' h' → R ι' P' { s with heap:=h',toks:=tk }
noncomputable def Zf6 (c:Cx) (t:Sem Value) (ι:Ix) (P:Z2) (v:V) (σ':List AO) (s:Shared):Prop :=
 ∀ Q:Value → Shared → Prop,Aft c ι P σ' s (fun ι' P' s' => ∀ x,VR ι' P' v x → Q x s') → wpAny (model pw c.w) c.A t Q c.E s
noncomputable def ZqT (c:Cx) (t:Sem (List Value)) (ι:Ix) (P:Z2) (vs:List V) (σ':List AO) (s:Shared):Prop :=
 ∀ Q:List Value → Shared → Prop,Aft c ι P σ' s (fun ι' P' s' => ∀ x,VRs ι' P' vs x → Q x s') → wpAny (model pw c.w) c.A t Q c.E s
noncomputable def Zps (c:Cx) (t:Sem Bool) (ι:Ix) (P:Z2) (b:Bool) (σ':List AO) (s:Shared):Prop :=
 ∀ Q:Bool → Shared → Prop,Aft c ι P σ' s (fun _ _ s' => Q b s') → wpAny (model pw c.w) c.A t Q c.E s
noncomputable abbrev cx (w:World) (h₀:Heap) (A:Around) (env:Env) (sc:Scope) (ρ:List (Option V)) (E:Value → Shared → Prop):Cx:=⟨w,h₀,A,env.locals,Zs sc,ρ,E⟩
noncomputable abbrev Cx.St (c:Cx) (ι:Ix) (P:Z2) (σ:List AO) (h:Heap):Prop:=Mine.St c.h₀ c.L c.N c.ρ ι P σ h
noncomputable def TE (sc:Scope) (d:Nat) (e:ME) (ρ:List (Option V)) (σ:List AO) (v:V) (σ':List AO):Prop :=
 ∀ w h₀ A env pe ι P s E,Fx w h₀ A env sc d → CE sc pe e → St h₀ env.locals (Zs sc) ρ ι P σ s.heap → Zf6 (cx w h₀ A env sc ρ E) (eval pe env) ι P v σ' s
noncomputable def TEs (sc:Scope) (d:Nat) (e:List ME) (ρ:List (Option V)) (σ:List AO) (vs:List V) (σ':List AO):Prop :=
 ∀ w h₀ A env pe ι P s E pos,Fx w h₀ A env sc d → CEs sc pe e → St h₀ env.locals (Zs sc) ρ ι P σ s.heap → ZqT (cx w h₀ A env sc ρ E) (spliced (backTo pos (starEach pe env))) ι P vs σ' s
noncomputable def TB (sc:Scope) (d:Nat) (e:ME) (ρ:List (Option V)) (σ:List AO) (b:Bool) (σ':List AO):Prop :=
 ∀ w h₀ A env pe ι P s E,Fx w h₀ A env sc d → CE sc pe e → St h₀ env.locals (Zs sc) ρ ι P σ s.heap → Zps (cx w h₀ A env sc ρ E) (isTrue pe env (eval pe env)) ι P b σ' s
noncomputable def TBs (sc:Scope) (d:Nat) (op:BoolOp) (e:List ME) (ρ:List (Option V)) (σ:List AO) (b:Bool) (σ':List AO):Prop :=
 ∀ w h₀ A env pe ι P s E,Fx w h₀ A env sc d → CEs sc pe e → St h₀ env.locals (Zs sc) ρ ι P σ s.heap → Zps (cx w h₀ A env sc ρ E) (allTrue op pe env) ι P b σ' s
noncomputable def OpV (d:Nat) (f:List Value → Sem Value) (as:List V) (σ:List AO) (v:V) (σ':List AO):Prop :=
 ∀ (c:Cx) ι P s xs,Rm c.w c.h₀ c.A d → c.St ι P σ s.heap → VRs ι P as xs → Zf6 c (f xs) ι P v σ' s
noncomputable def Bin (op:Operator):List Value → Sem Value
 | [a,b] => binaryOp op a b
 | _ => unsupported ""
noncomputable def Cmp (op:CmpOp):List Value → Sem Value
 | [a,b] => compareOp op a b
 | _ => unsupported ""
noncomputable def Un (op:UnaryOp):List Value → Sem Value
 | [a] => unaryOp op a
 | _ => unsupported ""
noncomputable def Fn (f:Value) (vs:List Value):Sem Value:=call f vs
section
variable {sc:Scope} {d:Nat} {ρ:List (Option V)} {σ σ₁ σ₂ σ₃:List AO}
theorem St.forget {h₀ L N ρ ι P σ h} (S:St h₀ L N ρ ι P σ h):St h₀ L N [] ι P σ h :=
 let ⟨m,hm,_⟩:=S.ns
 ⟨S.base,S.keep,⟨m,hm,fun i n v _ e => by simp at e⟩,S.len,S.objs,S.sep⟩
theorem Ze {c:Cx} {ι P σ s R} (S:c.St ι P σ s.heap) (k:Aft c ι P σ s R) (tk:Nat):R ι P { s with toks:=tk } :=
 k ι P s.heap tk (List.prefix_refl _) (.refl _) S
theorem TE.int {i:Int}:TE sc d (.cst (.int i)) ρ σ (.int i) σ:=by
 intro w h₀ A env pe ι P s E F C S Q k
 obtain ⟨_,_,rfl⟩:=C
 exact up (wpAny_Constant_int (Ze S k _ _ .int))
theorem TE.none:TE sc d (.cst .none) ρ σ .none σ:=by
 intro w h₀ A env pe ι P s E F C S Q k
 obtain ⟨_,_,rfl⟩:=C
 exact up (wpAny_Constant_none (Ze S k s.toks _ .none))
theorem TE.tt {b:Bool}:TE sc d (.cst (.bool b)) ρ σ (.bool b) σ:=by
 intro w h₀ A env pe ι P s E F C S Q k
 obtain ⟨_,_,rfl⟩:=C
 exact up (wpAny_Constant_bool (Ze S k s.toks _ .bool))
theorem TE.byt {b:List UInt8} {ks:List Int} (h:b.map (fun c => (c.toNat:Int)) = ks:=by rfl):TE sc d (.cst (.bytes b)) ρ σ (.bytes ks) σ:=by
 intro w h₀ A env pe ι P s E F C S Q k
 obtain ⟨_,_,rfl⟩:=C
 refine wpAny_mono (up (Constant_bytes (Q:=fun x s' => Q x s') (Ze S k _ _ (.bytes ?_)))) (fun _ _ h => h) fun _ _ h => h
 subst h
 rfl
theorem TE.loc {i:Nat} {v:V} (h:ρ[i]? = some (some v)):TE sc d (.loc i) ρ σ v σ:=by
 intro w h₀ A env pe ι P s E F C S Q k
 obtain ⟨_,_,rfl,h1,h2,h3⟩:=C
 obtain ⟨m,hm,hv⟩:=S.ns
 obtain ⟨x,hx,hr⟩:=hv i _ v h1 h
 exact wpAny_Name (up (wpAny_loadName_local (by rw [F.scope];exact F.kind) (by rw [Env.kindOf,F.scope];exact h2) hm hx (Ze S k s.toks _ hr))) h3
theorem Zbe {w:World} {h₀:Heap} {A:Around} {env:Env} {E:Value → Shared → Prop} {s:Shared} {L N ι P} {i:Nat} {n:Str} {v:V} {Q:Value → Shared → Prop} (F:Fx w h₀ A env sc d) (S:St h₀ L N ρ ι P σ s.heap)
  (h1:GN[i]? = some n) (h2:sc.names.lookup n = some .globalImplicit) (hv:GV[i]? = some v) (h:∀ x,VR ι P v x → Q x s):wpAny (model pw w) A (loadName env n) Q E s:=by
 rw [loadName_read (by rw [F.scope];exact F.kind) (by rw [Env.kindOf,F.scope];exact h2)]
 obtain ⟨mg,hg,hgv,_⟩:=F.gl.own
 obtain ⟨x,hx,hr⟩:=hgv i n v h1 hv
 unfold loadGlobal
 rw [F.globals]
 refine wpAny_bind (wpAny_nsGet (hg.keeps S.keep0) ?_)
 rw [hx]
 exact wpAny_pure (h x (hr.mono (List.nil_prefix) S.base))
theorem TE.glob {i:Nat} {v:V} (h:GV[i]? = some v):TE sc d (.glob i) ρ σ v σ:=by
 intro w h₀ A env pe ι P s E F C S Q k
 obtain ⟨_,_,rfl,h1,h2,h3⟩:=C
 have hi:i < GN.length:=by
  have:i < GV.length:=by
   exact (List.getElem?_eq_some_iff.mp h).1
  exact Nat.lt_of_lt_of_le this (by decide)
 rw [List.getElem?_append_left hi] at h1
 exact wpAny_Name (Zbe F S h1 h2 h fun x hr => Ze S k s.toks _ hr) h3
theorem TE.bin {op:Operator} {a b:ME} {x y v:V} (h1:TE sc d a ρ σ x σ₁) (h2:TE sc d b ρ σ₁ y σ₂) (h3:OpV d (Bin op) [x,y] σ₂ v σ₃):TE sc d (.bin op a b) ρ σ v σ₃:=by
 intro w h₀ A env pe ι P s E F C S Q k
 obtain ⟨_,_,_,rfl,c1,c2⟩:=C
 refine Zfr (h1 w h₀ A env _ ι P s E F c1 S _ ?_)
 intro ι₁ P₁ g₁ t₁ i₁ p₁ S₁ x₁ v₁
 refine h2 w h₀ A env _ ι₁ P₁ _ E F c2 S₁ _ ?_
 intro ι₂ P₂ g₂ t₂ i₂ p₂ S₂ x₂ v₂
 refine h3 (cx w h₀ A env sc ρ E) ι₂ P₂ _ _ F.toRm S₂ (.cons (v₁.mono i₂ p₂) (.cons v₂ .nil)) _ ?_
 intro ι₃ P₃ g₃ t₃ i₃ p₃ S₃ x₃ v₃
 exact k ι₃ P₃ g₃ t₃ (i₁.trans (i₂.trans i₃)) (p₁.trans (p₂.trans p₃)) S₃ x₃ v₃
end
end Mine
section
set_option maxHeartbeats 0
namespace Mine
noncomputable def Zoi (st:Program → World → SharedT → Thread → Option (SharedT × Thread)) (ok:Nat → Option Value → Thread → Bool) (p:Program) (w:World) (n₀:Nat) (ann:Option Value):Nat → SharedT → Thread → Option SharedT
 | 0,_,_ => none
 | n + 1,s,t => match through t with
  | true => some s
  | false => match ok n₀ ann t with
   | false => none
   | true => match st p w s t with
    | some (s',t') => Zoi st ok p w n₀ ann n s' t'
    | none => none
theorem Zhv {p:Program} {w:World} {n₀:Nat} {ann:Option Value}:∀ (n:Nat) (s:SharedT) (t:Thread) (r:SharedT),
  Zoi (stepT (denote treeTable)) stepOk p w n₀ ann n s t = some r → topRun treeTable p w n₀ ann n s.abs t = some r.abs
 | 0,_,_,_,h => by cases h
 | n + 1,s,t,r,h => by
  unfold Zoi at h
  unfold topRun
  cases ht:through t with
  | true => rw [ht] at h;cases h;rfl
  | false =>
   rw [ht] at h
   cases hk:stepOk n₀ ann t with
   | false => rw [hk] at h;cases h
   | true =>
    rw [hk] at h
    cases hs:stepT (denote treeTable) p w s t with
    | none => rw [hs] at h;cases h
    | some q => obtain ⟨s₂,t₂⟩:=q;rw [hs] at h;rw [stepT_spec hs];exact Zhv n _ _ _ h
noncomputable def Zf7:List Obj → Nat → BT → Option BT
 | [],_,t => some t
 | o :: l,n,t => match ((t.ins n o).get n).isSome with
  | true => Zf7 l (n + 1) (t.ins n o)
  | false => none
theorem Zfu (life:Life):∀ (l:List Obj) (n:Nat) (t r:BT),Zf7 l n t = some r →
  absHeap r (n + l.length) life = ⟨(absHeap t n life).objs ++ l.toArray,life⟩
 | [],n,t,r,h => by
  cases h
  simp [absHeap]
 | o :: l,n,t,r,h => by
  unfold Zf7 at h
  cases hg:((t.ins n o).get n).isSome with
  | false => rw [hg] at h;cases h
  | true =>
   rw [hg] at h
   have:=Zfu life l (n + 1) _ r h
   rw [absHeap_ins hg] at this
   rw [List.length_cons,show n + (l.length + 1) = n + 1 + l.length by omega,this]
   simp [Heap.push]
noncomputable def KH (s:SharedT):Frag:=(List.range s.n).filterMap fun a => ((s.tree.get a).bind alive).map fun o => (a,o)
noncomputable def ZpU (t0:String):(o:Option Obj) → Option {p:Array Value × Nat // o = some { cls:=.type t0,data:=.seq p.1 p.2 }}
 | some ⟨c,none,.seq items n,⟨[]⟩⟩ => if e:c = .type t0 then some ⟨(items,n),by rw [e]⟩ else none
 | _ => none
noncomputable def ZpV:(x:Value) → Option {a:Addr // x = .ref a}
 | .ref a => some ⟨a,rfl⟩
 | _ => none
noncomputable def ZqU:(x:Value) → Option {p:Int × Tok // x = .int p.1 p.2}
 | .int i t => some ⟨(i,t),rfl⟩
 | _ => none
noncomputable def Zrw (h:Heap) (ks:List Int):(x:Value) → Option (PLift (VR [] h.get? (.bytes ks) x))
 | .bytes b _ => if e:KBw.bInts b = ks then some ⟨.bytes e⟩ else none
 | _ => none
mutual
noncomputable def vP (h:Heap):Nat → (v:V) → (x:Value) → Option (PLift (VR [] h.get? v x))
 | 0,_,_ => none
 | n + 1,v,x => match v with
  | .none => if e:Value.none = x then some ⟨e ▸ .none⟩ else none
  | .bytes ks => Zrw h ks x
  | .int i => (ZqU x).bind fun p => if e:p.1.1 = i then some ⟨by rw [p.2,e];exact .int⟩ else none
  | .flst vs => (ZpV x).bind fun a => (ZpU "list" (h.get? a.1)).bind fun p => (vsP h n vs p.1.1.toList).map fun q => ⟨by rw [a.2];exact .flst p.2 q.1⟩
  | .tup vs => (ZpV x).bind fun a => (ZpU "tuple" (h.get? a.1)).bind fun p => (vsP h n vs p.1.1.toList).map fun q => ⟨by rw [a.2];exact .tup p.2 q.1⟩
  | .ext y => if e:y = x then some ⟨e ▸ .ext⟩ else none
  | _ => none
noncomputable def vsP (h:Heap):Nat → (v:List V) → (x:List Value) → Option (PLift (VRs [] h.get? v x))
 | 0,_,_ => none
 | n + 1,v,x => match v,x with
  | [],[] => some ⟨.nil⟩
  | v :: vs,x :: xs => (vP h n v x).bind fun a => (vsP h n vs xs).map fun b => ⟨.cons a.1 b.1⟩
  | _,_ => none
end
noncomputable def Zpt:(xs:List Value) → (js:List Int) → Option (PLift (IntsAre xs js))
 | [],[] => some ⟨.nil⟩
 | x :: xs,j :: js => (ZqU x).bind fun p => (Zpt xs js).bind fun q => if e:p.1.1 = j then some ⟨by rw [p.2,e];exact .cons _ _ q.1⟩ else none
 | _,_ => none
noncomputable def Zmq (h:Heap):Bool:=(GN.zip GV).all fun p => (h.nsMap mainGlobals p.1).any fun x => (vP h 40 p.2 x).isSome
noncomputable def Zmr (h:Heap):Option (PLift (∃ items n,h.get? 29 = some { cls:=.type "tuple",data:=.seq items n } ∧ IntsAre items.toList [64,250,60,200,40,200,2000,50,1000000000,1000000])) :=
 (ZpU "tuple" (h.get? 29)).bind fun p => (Zpt p.1.1.toList [64,250,60,200,40,200,2000,50,1000000000,1000000]).map fun q => ⟨p.1.1,p.1.2,p.2,q.1⟩
noncomputable def ZqV:(o:Option Obj) → Option (PLift (∃ nm q bs sub ab col dd k0 k1 k2 k3 k5,o = some (excClassObj nm q 74 73 bs [.type "Exception",.type "BaseException",.type "object"] true [] sub ab col dd k0 k1 k2 k3 k5 "Exception.__new__")))
 | some ⟨c,dd,.cls ⟨name,bases,mro,ns,qn,hd,sn,subs,ab,col,hdel⟩,⟨[k0,k1,k2,k3,k4,k5]⟩⟩ =>
  if e:c = .type "type" ∧ mro = [.ref 74,.type "Exception",.type "BaseException",.type "object"] ∧ ns = 73 ∧ hd = true ∧ sn = [] ∧ hdel = false ∧ k4 = some (.builtin "Exception.__new__") then
   some ⟨by obtain ⟨rfl,rfl,rfl,rfl,rfl,rfl,rfl⟩:=e;exact ⟨name,qn,bases,subs,ab,col,dd,k0,k1,k2,k3,k5,rfl⟩⟩ else none
 | _ => none
noncomputable def ZqW (h:Heap):Bool:=decide ((h.get? 71).map (·.cls) = some (.type "function"))
noncomputable def Zms (a:Nat) (x:Option Value):Bool:=decide (x = some (.ref a))
noncomputable def Zrx (q:Str):(x:Option Value) → Option {t:Tok // x = some (.str q t)}
 | some (.str n t) => if e:n = q then some ⟨t,by rw [e]⟩ else none
 | _ => none
noncomputable def Zry:(o:Option Obj) → Option {p:Obj × Array Value // o = some p.1 ∧ p.1.data = .fields p.2}
 | some ⟨c,d,.fields vs,sl⟩ => some ⟨(⟨c,d,.fields vs,sl⟩,vs),rfl,rfl⟩
 | _ => none
noncomputable def ZqX (h:Heap) (cd:Value) (q:Str):Option (PLift (h.CodeRec cd q)) :=
 (ZpV cd).bind fun c => (Zry (h.get? c.1)).bind fun p => (Zrx q (p.1.2[1]?)).map fun t => ⟨c.1,p.1.1,p.1.2,t.1,c.2,p.2.1,p.2.2,t.2⟩
noncomputable def ZqY:(o:Option Obj) → Option {p:FuncData × Value × Array (Option Value) // o = some ⟨p.2.1,none,.func p.1,p.2.2⟩}
 | some ⟨c,none,.func fd,sl⟩ => some ⟨(fd,c,sl),rfl⟩
 | _ => none
noncomputable def Zfv (h:Heap) (a:Nat):Option FuncData × Bool:=match ZqY (h.get? a) with
 | some p => (some { p.1.1 with pyModule:=.none,code:=.none },(ZqX h p.1.1.code p.1.1.qualname).isSome)
 | none => (none,false)
noncomputable def Zfw (dV:Value) (i:Nat) (j:Option Nat):Option FuncData × Bool:=match ZdQ i j with
 | some fi => (some (fnOf fi.name fi.qual fi.args fi.body fi.scope dV .none .none .none none .none .none),true)
 | none => (none,false)
noncomputable def Zrz (H₀:Heap) (s:SharedT) (h:Heap):Bool :=
 staticsOk (importedModules pw.main.body) H₀ h && namesBound pw h && (s.gens.size == 0) && laidKept H₀ h && h.isNs builtinsNs && h.accountedOkI (importedModules pw.main.body) && h.bmainOk && h.noLimitOk
noncomputable def ZrA (s:SharedT) (h:Heap):Bool :=
 KF (KH s) && Zmq h && (Zmr h).isSome && BN.all (fun n => (h.nsMap mainGlobals n).isNone) && (ZqV (h.get? 74)).isSome && ZqW h && h.isNs 73 && Zms 71 (h.nsMap 73 "__init__") && excFree.all (fun n => (h.nsMap 73 n).isNone) && Zms 765 (h.nsMap mainGlobals "law")
noncomputable def obs (H₀:Heap) (s:SharedT) (h:Heap):(Bool × Bool) × (Option FuncData × Bool) × List (Option FuncData × Bool) :=
 ((Zrz H₀ s h,ZrA s h),Zfv h 36,FT.map fun e => Zfv h e.1)
noncomputable def ZqZ:(Bool × Bool) × (Option FuncData × Bool) × List (Option FuncData × Bool) :=
 ((true,true),Zfw (.ref 29) 3 (some 0),FT.map fun e => Zfw .none e.2.1 e.2.2)
theorem Zoj (w:World) (os:OsState):(match Zf7 (boot_heap w.params).objs.toList 0 .nil with
 | none => none
 | some T => (Zoi (PySem.W.Fast.tw10156331382660048174 (PySem.W.Fast.tw11892475500146522536 PySem.W.Fast.tw14364793385576792824)) PySem.W.Fast.tw6613529449190102663 pw w (boot_heap w.params).objs.size ((boot_heap w.params).nsMap mainGlobals "__annotations__") 9864
  ⟨T,(boot_heap w.params).objs.size,(boot_heap w.params).life,#[],boot_drawn,boot_toks,os⟩ (topStub pw)).map (fun s => obs (boot_heap w.params) s s.abs.heap)) = some ZqZ:=by
 kernel_rfl
theorem Zro (w:World):(boot_heap w.params).isNs mainGlobals = true:=by kernel_rfl
end Mine
end
namespace Mine
theorem Zmt (P:Params):(boot_heap P).bltView = bltViewBooted:=by kernel_rfl
theorem Zle (P:Params):((boot_heap P).isNs mainGlobals,(boot_heap P).isNs builtinsNs) = (true,true):=by kernel_rfl
theorem Zmu (P:Params):((boot_heap P).nsMap mainGlobals "__annotations__" == some (.ref builtinsNs)) = false:=by kernel_rfl
theorem Zf8 {α:Type}:∀ {l:List (Nat × α)} {a:Nat} {o:α},l.lookup a = some o → (a,o) ∈ l
 | [],_,_,h => by cases h
 | (b,x) :: l,a,o,h => by
  rw [List.lookup_cons] at h
  split at h
  ·rename_i q
   cases h
   have:a = b:=by simpa using q
   subst this
   exact .head _
  ·exact .tail _ (Zf8 h)
theorem Zq0 (s:SharedT):(KH s).In s.abs.heap:=by
 intro a o h
 have:=Zf8 h
 unfold KH at this
 rw [List.mem_filterMap] at this
 obtain ⟨b,hb,e⟩:=this
 obtain ⟨o',e1,e2⟩:=Option.map_eq_some_iff.mp e
 obtain ⟨o'',e3,e4⟩:=Option.bind_eq_some_iff.mp e1
 cases e2
 show (absHeap s.tree s.n s.life).get? a = _
 rw [abs_get (List.mem_range.mp hb) e3,e4]
theorem Zf9 {a:Nat} {x:Option Value} (h:Zms a x = true):x = some (.ref a):=of_decide_eq_true h
theorem ZfW {p:Prop}:∀ {o:Option (PLift p)},o.isSome = true → p
 | some ⟨h⟩,_ => h
theorem Zga {h:Heap} {a i:Nat} {j:Option Nat} {fi:FnInfo} {dV:Value} (hfi:ZdQ i j = some fi) (e:Zfv h a = Zfw dV i j) :
  ∃ pm cdv oc osl,h.get? a = some ⟨oc,none,.func (fnOf fi.name fi.qual fi.args fi.body fi.scope dV .none .none pm none cdv .none),osl⟩ ∧ h.CodeRec cdv fi.qual:=by
 unfold Zfv Zfw at e
 rw [hfi] at e
 cases q:ZqY (h.get? a) with
 | none => rw [q] at e;cases congrArg Prod.snd e
 | some p =>
  rw [q] at e
  have e1:{ p.1.1 with pyModule:=.none,code:=.none } = fnOf fi.name fi.qual fi.args fi.body fi.scope dV .none .none .none none .none .none:=Option.some.inj (congrArg Prod.fst e)
  have e2:p.1.1 = fnOf fi.name fi.qual fi.args fi.body fi.scope dV .none .none p.1.1.pyModule none p.1.1.code .none :=
   congrArg (fun f:FuncData => { f with pyModule:=p.1.1.pyModule,code:=p.1.1.code }) e1
  have e3:p.1.1.qualname = fi.qual:=congrArg FuncData.qualname e1
  exact ⟨_,_,_,_,p.2.trans (congrArg (fun f => some (Obj.mk p.1.2.1 none (.func f) p.1.2.2)) e2),e3 ▸ ZfW (congrArg Prod.snd e)⟩
theorem Zmv (w:World) (os:OsState):∃ T r,Zf7 (boot_heap w.params).objs.toList 0 .nil = some T ∧
  topRun treeTable pw w (boot_heap w.params).objs.size ((boot_heap w.params).nsMap mainGlobals "__annotations__") 9864 ⟨boot_heap w.params,#[],boot_drawn,boot_toks,os⟩ (topStub pw) = some r.abs ∧ obs (boot_heap w.params) r r.abs.heap = ZqZ:=by
 have h:=Zoj w os
 rw [← PySem.W.Fast.te10156331382660048174,← PySem.W.Fast.te11892475500146522536,← PySem.W.Fast.te14364793385576792824,← PySem.W.Fast.te6613529449190102663] at h
 split at h
 ·cases h
 ·rename_i T hT
  obtain ⟨r,h1,h2⟩:=Option.map_eq_some_iff.mp h
  have h3:=Zhv _ _ _ _ h1
  have h4:=Zfu (boot_heap w.params).life _ _ _ _ hT
  have h5:(absHeap .nil 0 (boot_heap w.params).life).objs = #[]:=by simp [absHeap,BT.list]
  have h6:absHeap T (boot_heap w.params).objs.size (boot_heap w.params).life = boot_heap w.params:=by
   have e:(0 + (boot_heap w.params).objs.toList.length) = (boot_heap w.params).objs.size:=by simp
   rw [e,h5] at h4
   rw [h4]
   simp
  refine ⟨T,r,hT,?_,h2⟩
  have h7:SharedT.abs ⟨T,(boot_heap w.params).objs.size,(boot_heap w.params).life,#[],boot_drawn,boot_toks,os⟩ = ⟨boot_heap w.params,#[],boot_drawn,boot_toks,os⟩:=by
   unfold SharedT.abs
   rw [h6]
  rw [h7] at h3
  exact h3
theorem ZqP:∀ e ∈ FT,(ZdQ e.2.1 e.2.2).isSome = true:=by decide +kernel
theorem ZpW:(ZdQ 3 (some 0)).isSome = true:=by decide +kernel
theorem Zok {w:World} {s:Shared} {K:Frag} (hK:K.In s.heap) (hkf:KF K = true) (hg:Zmq s.heap = true) (hd:(Zmr s.heap).isSome = true) (hb:∀ n ∈ BN,s.heap.nsMap mainGlobals n = none) (he:(ZqV (s.heap.get? 74)).isSome = true) (h71:ZqW s.heap = true) (h73:s.heap.isNs 73 = true)
  (hi:s.heap.nsMap 73 "__init__" = some (.ref 71)) (hf:∀ n ∈ excFree,s.heap.nsMap 73 n = none) (hm:s.heap.isNs mainGlobals = true) (hbn:s.heap.isNs builtinsNs = true) (hlim:s.heap.noLimitOk = true)
  (hblt:∀ n:Str,n ≠ ("__name__":Str) → s.heap.nsMap builtinsNs n = bootBuiltins n) (h36:Zfv s.heap 36 = Zfw (.ref 29) 3 (some 0)) (hfn:∀ e ∈ FT,Zfv s.heap e.1 = Zfw .none e.2.1 e.2.2):Glob w s.heap where
 kin:=⟨K,hK,hkf⟩
 lim:=.of_ok hlim
 own:=by
  refine ⟨_,.of_isNs hm,fun i n v e1 e2 => ?_,hb⟩
  have hz:(GN.zip GV)[i]? = some (n,v):=List.getElem?_zip_eq_some.mpr ⟨e1,e2⟩
  have:=List.all_eq_true.mp hg _ (List.mem_of_getElem? hz)
  obtain ⟨x,h1,h2⟩:=(Option.any_eq_true _ _).mp this
  exact ⟨_,h1,ZfW h2⟩
 blt:=⟨_,.of_isNs hbn,fun n hn => hblt n (by
  intro q
  subst q
  revert hn
  decide +kernel)⟩
 init:=by
  obtain ⟨fi,hfi⟩:=Option.isSome_iff_exists.mp ZpW
  obtain ⟨pm,cdv,oc,osl,e1,e2⟩:=Zga hfi h36
  exact ⟨fi,pm,cdv,oc,osl,hfi,e1,e2⟩
 dflt:=ZfW hd
 fn:=fun a i j fi h1 h2 => by
  obtain ⟨pm,cdv,oc,osl,e1,e2⟩:=Zga h2 (hfn _ h1)
  exact ⟨pm,cdv,oc,osl,e1,e2⟩
 exc:=ZfW he
 excFn:=by
  obtain ⟨o,h1,h2⟩:=Option.map_eq_some_iff.mp (of_decide_eq_true h71)
  exact ⟨o,h1,h2⟩
 excNs:=⟨_,.of_isNs h73,hi,hf⟩
theorem ZjO:opening pw = plainProg pw.main.scope.names:=by rfl
theorem Zh0:bearImports pw.main.body = false:=by decide +kernel
theorem bl {a b:Bool} (h:(a && b) = true):a = true:=(Bool.and_eq_true_iff.mp h).1
theorem br {a b:Bool} (h:(a && b) = true):b = true:=(Bool.and_eq_true_iff.mp h).2
theorem Zhw (w:World):(∃ s,AfterRun (opening pw) w s) ∧ ∀ s,AfterRun (opening pw) w s → ∃ s₀,fenceModules? pw s = some s₀ ∧ s₀.gens = #[] ∧ ∃ s₁,TopRan pw w s₀ s₁ ∧ s₁.asleep ∧ s₁.gens = #[] ∧ s₁.heap.isNs mainGlobals = true ∧
  Glob w s₁.heap ∧ s₁.heap.nsMap mainGlobals "law" = some (.ref 765):=by
 obtain ⟨s₀,hfo,hv⟩:=Option.map_eq_some_iff.mp (boot_open (p:=pw) (N:=9864) ZjO rfl (fenceModules_id pw Zh0) w)
 obtain ⟨heap,gens,drawn,toks,os⟩:=s₀
 simp only [Prod.mk.injEq] at hv
 obtain ⟨rfl,rfl,rfl,rfl⟩:=hv
 unfold fencedOpening at hfo
 rw [← table_eq_tree] at hfo
 obtain ⟨s,h4,h5⟩:=Option.bind_eq_some_iff.mp hfo
 have A:=AfterImport.of_importEnds h4
 refine ⟨⟨s,A⟩,fun s' hs' => ?_⟩
 obtain rfl:s' = s:=AfterImport.unique hs' A
 refine ⟨_,h5,rfl,?_⟩
 obtain ⟨T,r,hT,hr,ho⟩:=Zmv w os
 rw [← table_eq_tree] at hr
 have z:Shared.asleep ⟨boot_heap w.params,#[],boot_drawn,boot_toks,os⟩:=Shared.asleep_of_life (fence_lifeW h5) A.life
 obtain ⟨a,l,hos,fr⟩:=topRun_spec _ _ _ _ z hr
 have hB:=congrArg (·.1.1) ho
 have hC:=congrArg (·.1.2) ho
 have h36:=congrArg (·.2.1) ho
 have hfn:=congrArg (·.2.2) ho
 have b8:=br hB
 have hB:=bl hB
 have b7:=br hB
 have hB:=bl hB
 have b6:=br hB
 have hB:=bl hB
 have b5:=br hB
 have hB:=bl hB
 have b4:=br hB
 have hB:=bl hB
 have b3:=beq_iff_eq.mp (br hB)
 have b2:=br (bl hB)
 have b1:=bl (bl hB)
 have c9:=br hC
 have hC:=bl hC
 have c8:∀ n ∈ excFree,r.abs.heap.nsMap 73 n = none:=fun n hn => Option.isNone_iff_eq_none.mp (List.all_eq_true.mp (br hC) n hn)
 have hC:=bl hC
 have c7:=br hC
 have hC:=bl hC
 have c6:=br hC
 have hC:=bl hC
 have c5':=br hC
 have hC:=bl hC
 have c5:=br hC
 have hC:=bl hC
 have c4:∀ n ∈ BN,r.abs.heap.nsMap mainGlobals n = none:=fun n hn => Option.isNone_iff_eq_none.mp (List.all_eq_true.mp (br hC) n hn)
 have hC:=bl hC
 have c3:=br hC
 have c2:=br (bl hC)
 have c1:=bl (bl hC)
 have n0:=Zle w.params
 simp only [Prod.mk.injEq] at n0
 have g1:r.abs.heap.isNs mainGlobals = true:=by
  unfold namesBound at b2
  exact (Bool.and_eq_true_iff.mp b2).1
 have gens0:r.abs.gens = #[]:=Array.eq_empty_of_size_eq_zero b3
 have hblt0:∀ x,x ≠ ("__name__":Str) → r.abs.heap.nsMap builtinsNs x = bootBuiltins x:=by
  intro x hx
  have e:=Heap.of_bltView n0.2 (Zmt w.params) x hx
  have key:r.abs.heap.nsMap builtinsNs x = (boot_heap w.params).nsMap builtinsNs x:=by
   have n2:=n0.2
   unfold Heap.isNs at n2
   unfold Heap.nsMap
   cases q:(boot_heap w.params).get? builtinsNs with
   | none => rw [q] at n2;cases n2
   | some o =>
    have:=fr builtinsNs o (Heap.lt_size q) (by decide) (by decide) (fun e => by
     have q1:=Zmu w.params
     rw [e] at q1
     exact absurd q1 (by decide)) q
    rw [this]
  rw [key,e]
 have hfn':∀ e ∈ FT,Zfv r.abs.heap e.1 = Zfw .none e.2.1 e.2.2:=fun e he => by
  have:=(List.map_inj_left (l:=FT) (f:=fun e => Zfv r.abs.heap e.1) (g:=fun e => Zfw .none e.2.1 e.2.2)).mp hfn
  exact this e he
 refine ⟨r.abs,⟨a,l,Shared.rest_eq hos,fun b o hb hn => fr b o (Heap.lt_size hb) (fun q => hn (.inl q)) (fun q => hn (.inr (.inl q))) (fun q => hn (.inr (.inr ((Pin.globalOf_eq n0.1 _).trans q)))) hb,
  Heap.accountedI_of_ok b6,statics_of_ok b1,Pin.keysAreStrs_of g1,fun x hx => (Pin.builtinOf_eq b5 x).trans (hblt0 x hx),?_,(fun g hg => by rw [gens0] at hg;simp at hg),names_of_bound b2,laid_of_kept b4⟩,
  Shared.asleep_of_life l z,gens0,g1,?_,Zf9 c9⟩
 ·obtain ⟨bm,ob,a1,_,a3,a4,a5,_⟩:=Heap.bmainOk_spec b7
  exact ⟨bm,ob,(Pin.globalOf_eq g1 _).trans a1,a3,a4,a5⟩
 ·exact Zok (Zq0 r) c1 c2 c3 c4 c5 c5' c6 (Zf9 c7) c8 g1 b5 b8 (fun n hn => hblt0 n hn) h36 hfn'
end Mine
section
open PySem.Sem (wp)
namespace Mine
theorem Zh1:Clean (⟨.builtin "claim.caller" {},none,none,[],none⟩:Ctx):=⟨by decide +kernel,fun x hx => by cases hx⟩
theorem Zol {M:Model} {A:Around} {Γ:Ctx} {t:Sem PySem.Fin} {R:Result → Shared → Prop} {s:Shared} (hin:Γ.In A) (hc:Clean Γ)
  (h:wpAny M A t (fun fin s' => ∃ f,fin = .done f ∧ R (.ok f) s') (fun e s' => R (.error e) s') s) (p:Pos):wp M Γ t (Sem.finPost M Γ R) (fun e _ s' => R (.error e) s') p s:=by
 refine Sem.wp_mono M Γ t (fun fin p' s' h' => ?_) (fun _ _ _ h' => h') p s (h Γ p hin hc)
 obtain ⟨f,rfl,hf⟩:=h'
 exact hf
theorem ZiO {prog:Program} {w:World} {t:Sem PySem.Fin} {s:Shared} {R:Result → Shared → Prop} (hreg:s.asleep)
  (h:wpAny (model prog w) callerA t (fun fin s' => ∃ f,fin = .done f ∧ (R (.ok f) s' ∧ leftWithCleanup s'.gens = false)) (fun e s' => R (.error e) s' ∧ leftWithCleanup s'.gens = false) s) :
  ∃ n r s' s'',runN (denote table) prog w n s ⟨t,.builtin "claim.caller" {},default,[]⟩ = .halted (outcomeOf r) s' ∧
   schedN (denote table) prog w n (.single s ⟨t,.builtin "claim.caller" {},default,[]⟩) = .halted (outcomeOf r) s' ∧ s'.forget = s''.forget ∧ R r s'':=by
 obtain ⟨n,r,s₁,s₂,hs,hn,hfo,hR⟩:=wp_halts_full (M:=model prog w) (R:=R) hreg (Zol (R:=fun r s' => R r s' ∧ leftWithCleanup s'.gens = false) caller_in Zh1 h default)
 exact ⟨n,r,s₂,s₁,hn,hs,hfo,hR⟩
theorem Zmw {α:Type} {p p' A B C D D' F:α → Prop} (h:∃ v,p v ∧ A v ∧ B v ∧ C v ∧ D v ∧ F v) (hp:∀ v,p v → p' v) (hd:∀ v,D v → D' v):∃ v,p' v ∧ A v ∧ B v ∧ C v ∧ D' v ∧ F v:=by
 obtain ⟨v,h1,h2,h3,h4,h5,h6⟩:=h
 exact ⟨v,hp v h1,h2,h3,h4,hd v h5,h6⟩
theorem Zlf {α β γ:Type} {p p' A B C D F F':α → β → γ → Prop} (h:∃ u v w,p u v w ∧ A u v w ∧ B u v w ∧ C u v w ∧ D u v w ∧ F u v w) (hp:∀ u v w,p u v w → p' u v w) (hf:∀ u v w,F u v w → F' u v w):∃ u v w,p' u v w ∧ A u v w ∧ B u v w ∧ C u v w ∧ D u v w ∧ F' u v w:=by
 obtain ⟨u,v,w,h1,h2,h3,h4,h5,h6⟩:=h
 exact ⟨u,v,w,hp u v w h1,h2,h3,h4,h5,hf u v w h6⟩
theorem pack {V S N O T:Type} {A:V → S → Prop} {B C D F G H:V → S → N → O → T → Prop} (v:V) (s:S) (n:N) (o:O) (t:T) (h1:A v s) (h2:B v s n o t) (h3:C v s n o t) (h4:D v s n o t) (h5:F v s n o t) (h6:G v s n o t) (h7:H v s n o t) :
  ∃ v s,A v s ∧ ∃ n o t,B v s n o t ∧ C v s n o t ∧ D v s n o t ∧ F v s n o t ∧ G v s n o t ∧ H v s n o t:=⟨v,s,h1,n,o,t,h2,h3,h4,h5,h6,h7⟩
theorem Zmx {c:ClaimW} {tree:List Value → Sem PySem.Fin} {w:World} {s:Shared} {free:Addr → Prop} {gens:Prop} {kept:Heap → Prop} (hz:s.asleep) (hgens:s.gens = #[])
  (hspec:∀ args,c.pre args = true → WData.layableAll args = true →
   ∀ ord:List DictEntry → List DictEntry,(∀ l,(ord l).Perm l) →
   ∃ vs s₁,layAllW c.records (classAt s.heap) w.params ord args s = some (vs,s₁) ∧
    wpAny (model c.prog w) callerA (tree vs) (fun fin s' => ∃ f,fin = .done f ∧ (c.Ends s args vs s₁ (.ok f) s' ∧ s'.os = s.os ∧ AllBare s'.gens ∧ kept s'.heap))
     (fun e s' => c.Ends s args vs s₁ (.error e) s' ∧ s'.os = s.os ∧ AllBare s'.gens ∧ kept s'.heap) s₁) :
  c.CallFrom (fun vs => ⟨tree vs,.builtin "claim.caller" {},default,[]⟩) w free gens kept s:=by
 intro args hpre hlay ord hord
 obtain ⟨vs,s₁,hlaid,hcode⟩:=hspec args hpre hlay ord hord
 have hal:=layAllW_rest _ _ _ hlaid
 obtain ⟨k,r,s',s'',hrun,hsched,hfo,hcase,hos,hkp⟩:=ZiO (prog:=c.prog) (w:=w) (t:=tree vs) (s:=s₁)
  (R:=fun r s' => c.Ends s args vs s₁ r s' ∧ s'.os = s.os ∧ kept s'.heap)
  (Shared.asleep_of_life hal.2.2.2 hz)
  (wpAny_mono hcode (fun fin s' h => by
   obtain ⟨f,e,h1,h2,h3,h4⟩:=h
   exact ⟨f,e,⟨h1,h2,h4⟩,leftWithCleanup_false_of_bare h3⟩) (fun e s' h => by
   obtain ⟨h1,h2,h3,h4⟩:=h
   exact ⟨⟨h1,h2,h4⟩,leftWithCleanup_false_of_bare h3⟩))
 obtain ⟨eh,_,_,eo,_⟩:=Shared.forget_eq hfo
 have hcase:=hcase.congr eh
 have hkp:kept s'.heap:=by rw [eh];exact hkp
 rw [← eo] at hos
 have hlife:s'.heap.life = s.heap.life:=(runN_life _ _ _ hrun).trans hal.2.2.2
 refine pack vs s₁ k _ s' hlaid hsched ?_ (fun _ i x hx => by rw [hgens] at hx;cases hx) hkp (by rw [hlife]) (Shared.rest_eq hos)
 exact Or.imp (fun h => Zmw h (fun v e => congrArg outcomeOf e) fun v d b o y _ => d b o y) (fun h => Zlf h (fun _ _ _ e => congrArg outcomeOf e) fun _ _ _ d b o y _ => d b o y) hcase
noncomputable def Zmy:Prop:=∀ (w:World) (s:Shared) (a:Addr) (items:Array Value) (n:Nat) (ns:List Int),Glob w s.heap → s.gens = #[] → s.heap.get? a = some { cls:=.type "list",data:=.seq items n } → IntsAre items.toList ns → ns.length ≤ 63 →
 wpAny (model pw w) callerA (PySem.call (.ref 765) [.ref a]) (fun v s' => v = .bool true ∧ (∀ b o,s.heap.get? b = some o → s'.heap.get? b = some o) ∧ s'.os = s.os ∧ s'.gens = #[]) (fun _ _ => False) s
theorem Zmz {xs:List WData}:WShape.hasItems [] xs .int = true → ∃ ns:List Int,xs = ns.map .int:=by
 induction xs with
 | nil => exact fun _ => ⟨[],rfl⟩
 | cons x xs ih =>
  intro h
  obtain ⟨h1,h2⟩:=Bool.and_eq_true_iff.mp (show (WShape.has [] x .int && WShape.hasItems [] xs .int) = true from h)
  obtain ⟨ns,rfl⟩:=ih h2
  cases x with
  | int i => exact ⟨i :: ns,rfl⟩
  | _ => exact absurd (show false = true from h1) Bool.false_ne_true
theorem ZiP {cl:Str → Option Addr} {P:Params} {ord:List DictEntry → List DictEntry}:∀ (ns:List Int) (s:Shared),∃ vs tk,layAllW [] cl P ord (ns.map .int) s = some (vs,{ s with toks:=tk }) ∧ IntsAre vs ns
 | [],s => ⟨[],s.toks,rfl,by constructor⟩
 | i :: ns,s => by
  obtain ⟨vs,tk,h,hi⟩:=ZiP (cl:=cl) (P:=P) (ord:=ord) ns { s with toks:=s.toks + 1 }
  refine ⟨.int i s.toks :: vs,tk,?_,IntsAre.cons i _ hi⟩
  have h':layAllW [] cl P ord (ns.map .int) { heap:=s.heap,gens:=s.gens,drawn:=s.drawn,toks:=s.toks + 1,os:=s.os } = _:=h
  simp only [List.map_cons,layAllW,layW,h']
theorem Zom {ns:List WData} (h:WTm.holds [] (.and (.not (.lt (.lit (.int (63:Nat))) (.len (.arg 0)))) (.lit (.bool true))) { args:=[.list ns] } = true):ns.length ≤ 63:=by
 unfold WTm.holds at h
 simp only [WTm.value,List.getElem?_cons_zero] at h
 by_cases q:(63:Int) < ns.length
 ·exfalso
  have e:less? (WData.int ((63:Nat):Int)) (WData.int (ns.length:Int)) = some true:=by
   show some (decide _) = some true
   rw [decide_eq_true (by omega)]
  rw [e] at h
  exact absurd h (by decide)
 ·omega
end Mine
end
section
open PySem.Sem (wp)
namespace Mine
noncomputable abbrev lawRow:OpenRow:=PySem.Challenge.rw_nt0666_01.row
theorem Glob.keeps {w:World} {h h':Heap} (G:Glob w h) (k:∀ b o,h.get? b = some o → h'.get? b = some o):Glob w h' where
 kin:=G.kin.imp fun K a => ⟨a.1.keeps k,a.2⟩
 lim:=by obtain ⟨mc,a,b⟩:=G.lim;exact ⟨mc,a.keeps k,b⟩
 own:=by
  obtain ⟨mg,a,b,c⟩:=G.own
  refine ⟨mg,a.keeps k,fun i n v e1 e2 => ?_,c⟩
  obtain ⟨x,hx,hr⟩:=b i n v e1 e2
  exact ⟨x,hx,hr.mono (List.prefix_refl _) k⟩
 blt:=G.blt.imp fun mb a => ⟨a.1.keeps k,a.2⟩
 init:=by obtain ⟨fi,pm,cdv,oc,osl,a,b,c⟩:=G.init;exact ⟨fi,pm,cdv,oc,osl,a,k _ _ b,c.keeps k⟩
 dflt:=by obtain ⟨items,n,a,b⟩:=G.dflt;exact ⟨items,n,k _ _ a,b⟩
 fn:=fun a i j fi h1 h2 => by obtain ⟨pm,cdv,oc,osl,e,c⟩:=G.fn a i j fi h1 h2;exact ⟨pm,cdv,oc,osl,k _ _ e,c.keeps k⟩
 exc:=by obtain ⟨nm,q,bs,sub,ab,col,dd,k0,k1,k2,k3,k5,e⟩:=G.exc;exact ⟨nm,q,bs,sub,ab,col,dd,k0,k1,k2,k3,k5,k _ _ e⟩
 excFn:=G.excFn.imp fun o a => ⟨k _ _ a.1,a.2⟩
 excNs:=G.excNs.imp fun m a => ⟨a.1.keeps k,a.2⟩
theorem ZmA (a b:List WData):lawRow.toRowW.claim.post a (.bool true) b = true:=by
 show (true && WTm.holds [] (.eq .res (.lit (.bool true))) { args:=a,res:=some (.bool true),after:=b }) = true
 rw [Bool.true_and,WTm.holds,WTm.value,WTm.value,WTm.value]
 simp [same]
theorem ZjP {w:World} {s:Shared} (hm:s.heap.isNs mainGlobals = true) (G:Glob w s.heap) (hl:s.heap.nsMap mainGlobals "law" = some (.ref 765)):∀ n ∈ (if true then [Str.ofString "law"] else []),isTheDefsW pw s.heap n:=by
 intro n hn
 have:n = Str.ofString "law":=by simpa using hn
 subst this
 have hs:(ZdQ 106 none).isSome = true:=by decide +kernel
 obtain ⟨fi,hfi⟩:=Option.isSome_iff_exists.mp hs
 obtain ⟨pm,cdv,oc,osl,h1,h2⟩:=G.fn 765 106 none fi (by decide) hfi
 have hd:pw.theDef (Str.ofString "law") = (ZdQ 106 none).map fun fi => (fi.args,fi.body,fi.scope):=by kernel_rfl
 have hz:(ZdQ 106 none).map (fun fi => (fi.name,fi.qual,fi.args.defaults.length,fi.args.kwonlyargs.length,fi.args.kw_defaults.length)) = some (Str.ofString "law",Str.ofString "law",0,0,0):=by kernel_rfl
 rw [hfi] at hd hz
 simp only [Option.map_some,Option.some.injEq,Prod.mk.injEq,List.length_eq_zero_iff] at hz
 obtain ⟨z1,z2,z3,z4,z5⟩:=hz
 refine ⟨765,_,_,_,_,_,(Pin.globalOf_eq hm _).trans hl,h1,rfl,hd,z1,z2,rfl,rfl,rfl,rfl,rfl,rfl,.inl ⟨z3,rfl⟩,[],?_,.inl ⟨rfl,rfl⟩⟩
 show kwWritten? fi.args.kwonlyargs fi.args.kw_defaults = some []
 rw [z4,z5]
 rfl
theorem Zlg:(frees lawRow.toRowW && lawRow.within.isEmpty) = true:=by rfl
theorem Zlh:opensWell pw = true:=by decide +kernel
theorem ZmB:pw.bare:=⟨rfl,rfl,rfl,rfl,rfl,by decide +kernel⟩
theorem ZmC {args:List WData} (hpre:lawRow.toRowW.claim.pre args = true):∃ ns:List Int,args = [.list (ns.map .int)] ∧ ns.length ≤ 63:=by
 obtain ⟨p1,p2⟩:=pre_splitW (r:=lawRow.toRowW) hpre
 obtain ⟨d,r,rfl,p3,p4⟩:=hasAllW_cons p1
 cases r with
 | cons _ _ => exact absurd (show false = true from p4) Bool.false_ne_true
 | nil =>
  cases d with
  | list xs =>
   have p5:WShape.hasItems [] xs .int = true:=by
    have:(WShape.hasItems [] xs .int || false) = true:=p3
    rwa [Bool.or_false] at this
   obtain ⟨ns,rfl⟩:=Zmz p5
   have hlen:=Zom p2
   rw [List.length_map] at hlen
   exact ⟨ns,rfl,hlen⟩
  | _ => exact absurd (show false = true from p3) Bool.false_ne_true
theorem ZmD (H:Zmy):lawRow.toRowW.claim.HoldsOpenBy (callStub lawRow.name) (if lawRow.pinned then [lawRow.name] else []) lawRow.keeps lawRow.writes:=by
 obtain ⟨k5,k6⟩:=Bool.and_eq_true_iff.mp Zlg
 obtain ⟨hsame,hu,ha,hap,hm⟩:=frees_parts k5
 have hi:=ident_freeW hu ha hap
 have hwi:lawRow.toRowW.claim.within = []:=List.isEmpty_iff.mp k6
 refine ⟨⟨ZmB,Zlh,by rfl⟩,⟨[.list []],by decide +kernel,by decide +kernel⟩,fun w => ⟨(Zhw w).1,fun s' hs' => ?_⟩⟩
 obtain ⟨s₀,hf,hg0,s,hT,hz,hgens,hg,G,hl⟩:=(Zhw w).2 s' hs'
 refine ⟨s₀,hf,hg0,s,hT,ZjP hg G hl,(fun x hx => (nomatch hx)),(fun x hx => (nomatch hx)),?_⟩
 refine Zmx (c:=lawRow.toRowW.claim) (tree:=fun vs => do match ← nsGet mainNs lawRow.name with
   | some f => do ret (← PySem.call f vs)
   | none => unsupported "claim.caller:no-such-global") hz hgens fun args hpre hlay ord hord => ?_
 obtain ⟨ns,e,hlen⟩:=ZmC hpre
 subst e
 clear hpre
 obtain ⟨vs,tk,h1,h2⟩:=ZiP (cl:=classAt s.heap) (P:=w.params) (ord:=ord) ns s
 have hlaid:layAllW lawRow.records (classAt s.heap) w.params ord [.list (ns.map .int)] s = some ([.ref s.heap.objs.size],{ s with heap:=s.heap.push { cls:=.type "list",data:=.seq vs.toArray },toks:=tk }):=by
  show layAllW [] (classAt s.heap) w.params ord [.list (ns.map .int)] s = _
  simp only [layAllW,layW,h1]
 have keeps:=layAllW_keeps _ _ _ hlaid
 have hal:=layAllW_rest _ _ _ hlaid
 obtain ⟨as,hrd,hin,hold⟩:=reads_layAllW hord _ _ _ hlaid hlay _ (fun _ _ e => e)
 refine ⟨_,_,hlaid,?_⟩
 have L:Laid lawRow.records w s { s with heap:=s.heap.push { cls:=.type "list",data:=.seq vs.toArray },toks:=tk } [.list (ns.map .int)] [.ref s.heap.objs.size] as:=⟨⟨ord,hord,hlaid⟩,hrd,hin,hold,keeps,hal.1.trans hgens,hal.2.2.1⟩
 have G₁:Glob w (s.heap.push { cls:=.type "list",data:=.seq vs.toArray }):=G.keeps keeps
 have hget:(s.heap.push { cls:=.type "list",data:=.seq vs.toArray }).get? s.heap.objs.size = some { cls:=.type "list",data:=.seq vs.toArray }:=Heap.get?_push_size _ rfl
 have key:=H w { s with heap:=s.heap.push { cls:=.type "list",data:=.seq vs.toArray },toks:=tk } s.heap.objs.size vs.toArray 0 ns G₁ hgens hget (by simpa using h2) hlen
 have hns:(s.heap.push { cls:=.type "list",data:=.seq vs.toArray }).Ns mainGlobals (s.heap.nsMap mainGlobals):=(Heap.Ns.of_isNs hg).keeps keeps
 refine wpAny_bind (wpAny_nsGet hns ?_)
 have hl':s.heap.nsMap mainGlobals lawRow.name = some (.ref 765):=hl
 rw [hl']
 refine wpAny_bind (wpAny_mono key (fun v s' g => wpAny_pure ?_) fun _ _ x => x.elim)
 obtain ⟨rfl,g1,g2,g3⟩:=g
 have gg:GoodWG lawRow.toRowW.claim (classAt s.heap) (ExcName.means s.heap) [.list (ns.map .int)] { s with heap:=s.heap.push { cls:=.type "list",data:=.seq vs.toArray },toks:=tk } (.ok (.ret (.bool true))) s':=by
  refine ⟨.inl ⟨_,.bool true,[],rfl,fun cls => rfl,.bool true,ZmA _ _,fun _ => ⟨.nil,fun a ha => by cases ha⟩⟩,.of_keep g1,g2,.of_eq g3⟩
 have z:=gg.laid (c:=lawRow.toRowW.claim) hsame hwi hi L
 exact ⟨_,rfl,z.1,z.2.1,z.2.2,fun q => nomatch q⟩
theorem ZmE:PySem.Challenge.rw_nt0666_01.wellSaid = true:=by kernel_rfl
theorem Zli (H:Zmy):PySem.Challenge.rw_nt0666_01.Holds :=
 holds_law ZmE fun said => ⟨said,⟨[.list []],by decide +kernel,by decide +kernel⟩,ZmD H⟩
end Mine
end
namespace Mine
theorem Aft.up {c:Cx} {ι ι₁ P P₁ σ' s R g t} (k:Aft c ι P σ' s R) (i:ι <+: ι₁) (p:FrzLe P P₁):Aft c ι₁ P₁ σ' { s with heap:=g,toks:=t } R :=
 fun ι' P' h' tk i' p' S => k ι' P' h' tk (i.trans i') (p.trans p') S
noncomputable def frz (P:Z2) (a:Addr) (o:Obj):Z2:=fun b => if b = a then some o else P b
section
variable {h₀:Heap} {L:Addr} {N:List Str} {ρ:List (Option V)} {ι:Ix} {P:Z2} {σ:List AO} {h:Heap}
theorem St.freshP (S:St h₀ L N ρ ι P σ h):P h.objs.size = none:=by
 cases e:P h.objs.size with
 | none => rfl
 | some o => exact absurd (Heap.lt_size (S.keep _ _ e)) (Nat.lt_irrefl _)
theorem St.last (S:St h₀ L N ρ ι P σ h) {p:Addr × Addr}:(ι ++ [p])[σ.length]? = some p:=by
 rw [← S.len]
 exact List.getElem?_concat_length
theorem St.freshI (S:St h₀ L N ρ ι P σ h) {k:Nat} {a d:Addr} (e:ι[k]? = some (a,d)):a < h.objs.size ∧ d < h.objs.size:=by
 obtain ⟨ao,_,r⟩:=S.objOf e
 obtain ⟨⟨_,h1⟩,_,h2⟩:=r.live
 exact ⟨Heap.lt_size h1,Heap.lt_size h2⟩
theorem ZjQ (S:St h₀ L N ρ ι P σ h) (o:Obj):FrzLe P (frz P h.objs.size o):=fun b x e => by
 unfold frz
 split
 ·rename_i q;subst q;rw [S.freshP] at e;cases e
 ·exact e
theorem St.freeze (S:St h₀ L N ρ ι P σ h) (o:Obj) (hf:o.isFreed = false):St h₀ L N ρ ι (frz P h.objs.size o) σ (h.push o):=by
 have le:=ZjQ S o
 obtain ⟨m,hm,hv⟩:=S.ns
 refine ⟨fun b x e => le _ _ (S.base b x e),fun b x e => ?_,⟨m,hm.push o,fun i n v e1 e2 => ?_⟩,S.len,fun k ao a d e1 e2 => ?_,?_,fun k a d e => ?_,S.sep.apart⟩
 ·unfold frz at e
  split at e
  ·rename_i q;subst q;cases e;exact Heap.get?_push_size _ hf
  ·exact Heap.get?_push_of_some _ (S.keep _ _ e)
 ·obtain ⟨x,hx,hr⟩:=hv i n v e1 e2
  exact ⟨x,hx,hr.mono (List.prefix_refl _) le⟩
 ·exact (S.objs k ao a d e1 e2).same (List.prefix_refl _) le (fun _ e => Heap.get?_push_of_some _ e) fun _ e => Heap.get?_push_of_some _ e
 ·show (if L = _ then _ else _) = _
  rw [if_neg (Nat.ne_of_lt S.ltL)];exact S.sep.PL
 ·obtain ⟨h1,h2,h3,h4⟩:=S.sep.off k a d e
  obtain ⟨l1,l2⟩:=S.freshI e
  refine ⟨?_,?_,h3,h4⟩
  ·show (if a = _ then _ else _) = _
   rw [if_neg (Nat.ne_of_lt l1)];exact h1
  ·show (if d = _ then _ else _) = _
   rw [if_neg (Nat.ne_of_lt l2)];exact h2
theorem St.grow (S:St h₀ L N ρ ι P σ h) {h':Heap} {a d:Addr} {ao:AO} (k:∀ b o,h.get? b = some o → h'.get? b = some o) (ha:P a = none ∧ a ≠ L ∧ ∀ (i:Nat) (x y:Addr),ι[i]? = some (x,y) → a ≠ x ∧ a ≠ y)
  (hd:P d = none ∧ d ≠ L ∧ ∀ (i:Nat) (x y:Addr),ι[i]? = some (x,y) → d ≠ x ∧ d ≠ y) (r:AOR (ι ++ [(a,d)]) P h' ao a d):St h₀ L N ρ (ι ++ [(a,d)]) P (σ ++ [ao]) h':=by
 have pr:ι <+: ι ++ [(a,d)]:=List.prefix_append _ _
 obtain ⟨m,hm,hv⟩:=S.ns
 have old:∀ (i:Nat) (x y:Addr),(ι ++ [(a,d)])[i]? = some (x,y) → ι[i]? = some (x,y) ∨ (i = ι.length ∧ x = a ∧ y = d):=fun i x y e => by
  rw [List.getElem?_append] at e
  split at e
  ·exact .inl e
  ·rename_i hi
   have:i - ι.length = 0:=by
    cases q:i - ι.length with
    | zero => rfl
    | succ n => rw [q] at e;simp at e
   rw [this] at e
   simp at e
   exact .inr ⟨by omega,e.1.symm,e.2.symm⟩
 refine ⟨S.base,fun b o e => k _ _ (S.keep b o e),⟨m,hm.keeps k,fun i n v e1 e2 => ?_⟩,by simp [S.len],fun i ao' x y e1 e2 => ?_,S.sep.PL,fun i x y e => ?_,fun i j x y x' y' e1 e2 hne => ?_⟩
 ·obtain ⟨x,hx,hr⟩:=hv i n v e1 e2
  exact ⟨x,hx,hr.mono pr (.refl _)⟩
 ·rcases old i x y e2 with e | ⟨e,rfl,rfl⟩
  ·have:i < σ.length:=by
    rw [← S.len]
    exact (List.getElem?_eq_some_iff.mp e).1
   rw [List.getElem?_append_left this] at e1
   exact (S.objs i ao' x y e1 e).same pr (.refl _) (fun _ e => k _ _ e) fun _ e => k _ _ e
  ·rw [e,S.len] at e1
   simp at e1
   subst e1
   exact r
 ·rcases old i x y e with e | ⟨_,rfl,rfl⟩
  ·exact S.sep.off i x y e
  ·exact ⟨ha.1,hd.1,ha.2.1,hd.2.1⟩
 ·rcases old i x y e1 with f1 | ⟨q1,z1,z2⟩ <;> rcases old j x' y' e2 with f2 | ⟨q2,z3,z4⟩
  ·exact S.sep.apart i j x y x' y' f1 f2 hne
  ·rw [z3,z4]
   exact ⟨((ha.2.2 i x y f1).1).symm,((hd.2.2 i x y f1).1).symm,((ha.2.2 i x y f1).2).symm,((hd.2.2 i x y f1).2).symm⟩
  ·rw [z1,z2]
   exact ⟨(ha.2.2 j x' y' f2).1,(ha.2.2 j x' y' f2).2,(hd.2.2 j x' y' f2).1,(hd.2.2 j x' y' f2).2⟩
  ·exact absurd (q1.trans q2.symm) hne
theorem St.alloc (S:St h₀ L N ρ ι P σ h) {o:Obj} {ao:AO} (r:AOR (ι ++ [(h.objs.size,h.objs.size)]) P (h.push o) ao h.objs.size h.objs.size) :
  St h₀ L N ρ (ι ++ [(h.objs.size,h.objs.size)]) P (σ ++ [ao]) (h.push o):=by
 have q:∀ (i:Nat) (x y:Addr),ι[i]? = some (x,y) → h.objs.size ≠ x ∧ h.objs.size ≠ y:=fun i x y e => ⟨(Nat.ne_of_lt (S.freshI e).1).symm,(Nat.ne_of_lt (S.freshI e).2).symm⟩
 exact S.grow (fun b o e => Heap.get?_push_of_some _ e) ⟨S.freshP,(Nat.ne_of_lt S.ltL).symm,q⟩ ⟨S.freshP,(Nat.ne_of_lt S.ltL).symm,q⟩ r
theorem St.change (S:St h₀ L N ρ ι P σ h) {h':Heap} {k:Nat} {a d:Addr} {ao:AO} (hk:ι[k]? = some (a,d)) (same:∀ b o,b ≠ a → b ≠ d → h.get? b = some o → h'.get? b = some o) (r:AOR ι P h' ao a d) :
  St h₀ L N ρ ι P (σ.set k ao) h':=by
 obtain ⟨m,hm,hv⟩:=S.ns
 have o1:=S.sep.off k a d hk
 have keepP:∀ b o,P b = some o → h'.get? b = some o:=fun b o e => same b o (fun q => by subst q;rw [o1.1] at e;cases e) (fun q => by subst q;rw [o1.2.1] at e;cases e) (S.keep b o e)
 refine ⟨S.base,keepP,⟨m,?_,hv⟩,by simp [S.len],fun i ao' x y e1 e2 => ?_,S.sep⟩
 ·obtain ⟨oL,es,ep,hL,hLd,hLk,hLf⟩:=hm
  exact ⟨oL,es,ep,same _ _ o1.2.2.1.symm o1.2.2.2.symm hL,hLd,hLk,hLf⟩
 ·by_cases hi:i = k
  ·subst hi
   rw [hk] at e2;cases e2
   have:i < σ.length:=by
    rcases Nat.lt_or_ge i σ.length with q | q
    ·exact q
    ·rw [List.getElem?_eq_none (by simpa using q)] at e1;cases e1
   rw [List.getElem?_set_self this] at e1
   cases e1
   exact r
  ·rw [List.getElem?_set_ne (Ne.symm hi)] at e1
   obtain ⟨q1,q2,q3,q4⟩:=S.sep.apart i k x y a d e2 hk hi
   exact (S.objs i ao' x y e1 e2).same (List.prefix_refl _) (.refl _) (fun o e => same _ _ q1 q2 e) fun o e => same _ _ q3 q4 e
end
section
variable {sc:Scope} {d:Nat} {ρ:List (Option V)} {σ σ₁ σ₂ σ₃:List AO}
theorem TEs.nil:TEs sc d [] ρ σ [] σ:=by
 intro w h₀ A env pe ι P s E pos F C S Q k
 cases C
 exact wpAny_items_nil (Ze S k s.toks _ .nil)
noncomputable def ZjR:Expr → Nat
 | .Constant .. => 1
 | .Name .. => 2
 | .BinOp .. => 3
 | .UnaryOp op .. => match op with
  | .Not => 4
  | _ => 5
 | .Compare .. => 6
 | .BoolOp .. => 7
 | .IfExp .. => 8
 | .Tuple .. => 9
 | .List .. => 10
 | .Subscript .. => 11
 | .Attribute .. => 12
 | .Call .. => 13
 | .ListComp .. => 14
 | .Dict .. => 15
 | _ => 0
noncomputable def Ze4:ME → Nat
 | .cst .. => 1
 | .loc .. => 2
 | .glob .. => 2
 | .bin .. => 3
 | .un op .. => match op with
  | .Not => 4
  | _ => 5
 | .cmp .. => 6
 | .bool .. => 7
 | .ite .. => 8
 | .tup .. => 9
 | .lst .. => 10
 | .sub .. => 11
 | .slc .. => 11
 | .attr .. => 12
 | .call .. => 13
 | .callk .. => 13
 | .callm .. => 13
 | .comp .. => 14
 | .dict .. => 15
theorem CE.shape {e:Expr} {m:ME} (C:CE sc e m):ZjR e = Ze4 m:=by
 cases m with
 | cst => obtain ⟨_,_,rfl⟩:=C;rfl
 | loc => obtain ⟨_,_,rfl,_⟩:=C;rfl
 | glob => obtain ⟨_,_,rfl,_⟩:=C;rfl
 | bin => obtain ⟨_,_,_,rfl,_⟩:=C;rfl
 | un => obtain ⟨_,_,rfl,_⟩:=C;rfl
 | cmp => obtain ⟨_,_,_,rfl,_⟩:=C;rfl
 | bool => obtain ⟨_,_,rfl,_⟩:=C;rfl
 | ite => obtain ⟨_,_,_,_,rfl,_⟩:=C;rfl
 | tup => obtain ⟨_,_,_,rfl,_⟩:=C;rfl
 | lst => obtain ⟨_,_,rfl,_⟩:=C;rfl
 | sub => obtain ⟨_,_,_,rfl,_⟩:=C;rfl
 | slc => obtain ⟨_,_,_,_,_,rfl,_⟩:=C;rfl
 | attr => obtain ⟨_,_,_,rfl,_⟩:=C;rfl
 | call => obtain ⟨_,_,_,_,rfl,_⟩:=C;rfl
 | callk => obtain ⟨_,_,_,_,_,_,rfl,_⟩:=C;rfl
 | callm => obtain ⟨_,_,_,_,_,rfl,_⟩:=C;rfl
 | comp => obtain ⟨_,_,_,_,_,_,_,rfl,_⟩:=C;rfl
 | dict => obtain ⟨_,_,_,rfl,_⟩:=C;rfl
theorem CE.dull {e:Expr} {m:ME} (C:CE sc e m):0 < ZjR e:=by
 rw [C.shape]
 cases m <;> (try unfold Ze4) <;> first | exact Nat.succ_pos _ | (dsimp only;split <;> exact Nat.succ_pos _)
theorem Zce {env:Env} {e:Expr} {es:List Expr} {m:ME} (C:CE sc e m):starEach (e :: es) env = (false,eval e env) :: starEach es env:=by
 have h:=C.dull
 cases e <;> first | rfl | exact absurd h (Nat.lt_irrefl 0)
theorem TEs.cons {e:ME} {es:List ME} {v:V} {vs:List V} (h1:TE sc d e ρ σ v σ₁) (h2:TEs sc d es ρ σ₁ vs σ₂):TEs sc d (e :: es) ρ σ (v :: vs) σ₂:=by
 intro w h₀ A env pe ι P s E pos F C S Q k
 obtain ⟨_,_,rfl,c1,c2⟩:=C
 refine Zbd (h1 w h₀ A env _ ι P s E F c1 S _ ?_) (Zce c1)
 intro ι₁ P₁ g₁ t₁ i₁ p₁ S₁ x₁ v₁
 refine h2 w h₀ A env _ ι₁ P₁ _ E pos F c2 S₁ _ ?_
 intro ι₂ P₂ g₂ t₂ i₂ p₂ S₂ x₂ v₂
 exact k ι₂ P₂ g₂ t₂ (i₁.trans i₂) (p₁.trans p₂) S₂ _ (.cons (v₁.mono i₂ p₂) v₂)
theorem TE.tup {as:List ME} {vs:List V} (h1:TEs sc d as ρ σ vs σ₁) (hl:vs.length ≤ 1000:=by decide):TE sc d (.tup as) ρ σ (.tup vs) σ₁:=by
 intro w h₀ A env pe ι P s E F C S Q k
 obtain ⟨_,_,_,rfl,c1⟩:=C
 refine ZiK (h1 w h₀ A env _ ι P s E _ F c1 S _ ?_)
 intro ι₁ P₁ g₁ t₁ i₁ p₁ S₁ x₁ v₁
 refine ⟨by rw [← v₁.length];exact Nat.le_trans hl (by decide),?_⟩
 have le:=ZjQ S₁ ({ cls:=.type "tuple",data:=.seq x₁.toArray }:Obj)
 exact k ι₁ _ _ t₁ i₁ (p₁.trans le) (S₁.freeze _ rfl) _ (.tup (a:=g₁.objs.size) (items:=x₁.toArray) (n:=0) (if_pos rfl) (v₁.mono (List.prefix_refl _) le))
theorem TE.lst {as:List ME} {vs:List V} (h1:TEs sc d as ρ σ vs σ₁) (hl:vs.length ≤ 1000:=by decide):TE sc d (.lst as) ρ σ (.ref σ₁.length) (σ₁ ++ [.list vs]):=by
 intro w h₀ A env pe ι P s E F C S Q k
 obtain ⟨_,_,rfl,c1⟩:=C
 refine Zf4 (h1 w h₀ A env _ ι P s E _ F c1 S _ ?_)
 intro ι₁ P₁ g₁ t₁ i₁ p₁ S₁ x₁ v₁
 refine ⟨by rw [← v₁.length];exact Nat.le_trans hl (by decide),?_⟩
 have pr:ι₁ <+: ι₁ ++ [(g₁.objs.size,g₁.objs.size)]:=List.prefix_append _ _
 exact k _ P₁ _ t₁ (i₁.trans pr) p₁ (S₁.alloc ⟨rfl,_,0,Heap.get?_push_size _ rfl,v₁.mono pr (.refl _)⟩) _ (.ref (d:=g₁.objs.size) (by rw [← S₁.len];simp))
theorem TE.ite_t {c a b:ME} {v:V} (h1:TB sc d c ρ σ true σ₁) (h2:TE sc d a ρ σ₁ v σ₂):TE sc d (.ite c a b) ρ σ v σ₂:=by
 intro w h₀ A env pe ι P s E F C S Q k
 obtain ⟨_,_,_,_,rfl,c0,c1,c2⟩:=C
 refine Zfs (h1 w h₀ A env _ ι P s E F c0 S _ ?_)
 intro ι₁ P₁ g₁ t₁ i₁ p₁ S₁
 rw [if_pos rfl]
 exact h2 w h₀ A env _ ι₁ P₁ _ E F c1 S₁ _ (k.up i₁ p₁)
theorem TE.ite_f {c a b:ME} {v:V} (h1:TB sc d c ρ σ false σ₁) (h2:TE sc d b ρ σ₁ v σ₂):TE sc d (.ite c a b) ρ σ v σ₂:=by
 intro w h₀ A env pe ι P s E F C S Q k
 obtain ⟨_,_,_,_,rfl,c0,c1,c2⟩:=C
 refine Zfs (h1 w h₀ A env _ ι P s E F c0 S _ ?_)
 intro ι₁ P₁ g₁ t₁ i₁ p₁ S₁
 rw [if_neg (by decide)]
 exact h2 w h₀ A env _ ι₁ P₁ _ E F c2 S₁ _ (k.up i₁ p₁)
theorem TE.un {op:UnaryOp} {a:ME} {x v:V} (h1:TE sc d a ρ σ x σ₁) (h3:OpV d (Un op) [x] σ₁ v σ₂):TE sc d (.un op a) ρ σ v σ₂:=by
 intro w h₀ A env pe ι P s E F C S Q k
 obtain ⟨_,_,rfl,c1⟩:=C
 refine Zg2 (h1 w h₀ A env _ ι P s E F c1 S _ ?_)
 intro ι₁ P₁ g₁ t₁ i₁ p₁ S₁ x₁ v₁
 exact h3 (cx w h₀ A env sc ρ E) ι₁ P₁ _ _ F.toRm S₁ (.cons v₁ .nil) _ (k.up i₁ p₁)
theorem Zbf {op:CmpOp} {e:Expr} {m:ME} (C:CE sc e m):behindInMarks op e = false:=by
 have h:=C.dull
 cases e <;> first | rfl | exact absurd h (Nat.lt_irrefl 0)
theorem TE.cmp {op:CmpOp} {a b:ME} {x y v:V} (h1:TE sc d a ρ σ x σ₁) (h2:TE sc d b ρ σ₁ y σ₂) (h3:OpV d (Cmp op) [x,y] σ₂ v σ₃):TE sc d (.cmp a [op] [b]) ρ σ v σ₃:=by
 intro w h₀ A env pe ι P s E F C S Q k
 obtain ⟨_,_,_,rfl,c1,c2⟩:=C
 obtain ⟨_,_,rfl,c2,c3⟩:=c2
 cases c3
 refine Zdd (h1 w h₀ A env _ ι P s E F c1 S _ ?_) (Zbf c2)
 intro ι₁ P₁ g₁ t₁ i₁ p₁ S₁ x₁ v₁
 refine h2 w h₀ A env _ ι₁ P₁ _ E F c2 S₁ _ ?_
 intro ι₂ P₂ g₂ t₂ i₂ p₂ S₂ x₂ v₂
 exact h3 (cx w h₀ A env sc ρ E) ι₂ P₂ _ _ F.toRm S₂ (.cons (v₁.mono i₂ p₂) (.cons v₂ .nil)) _ ((k.up i₁ p₁).up i₂ p₂)
theorem TB.cmp {op:CmpOp} {a b:ME} {x y:V} {r:Bool} (h1:TE sc d a ρ σ x σ₁) (h2:TE sc d b ρ σ₁ y σ₂) (h3:OpV d (Cmp op) [x,y] σ₂ (.bool r) σ₃):TB sc d (.cmp a [op] [b]) ρ σ r σ₃:=by
 intro w h₀ A env pe ι P s E F C S Q k
 obtain ⟨_,_,_,rfl,c1,c2⟩:=C
 obtain ⟨_,_,rfl,c2,c3⟩:=c2
 cases c3
 refine Zc7 (h1 w h₀ A env _ ι P s E F c1 S _ ?_) (Zbf c2)
 intro ι₁ P₁ g₁ t₁ i₁ p₁ S₁ x₁ v₁
 refine h2 w h₀ A env _ ι₁ P₁ _ E F c2 S₁ _ ?_
 intro ι₂ P₂ g₂ t₂ i₂ p₂ S₂ x₂ v₂
 refine h3 (cx w h₀ A env sc ρ E) ι₂ P₂ _ _ F.toRm S₂ (.cons (v₁.mono i₂ p₂) (.cons v₂ .nil)) _ ?_
 intro ι₃ P₃ g₃ t₃ i₃ p₃ S₃ x₃ v₃
 obtain rfl:=v₃.bool'
 exact Zl (k ι₃ P₃ g₃ t₃ (i₁.trans (i₂.trans i₃)) (p₁.trans (p₂.trans p₃)) S₃)
theorem ZmF {M:Model} {A:Around} {E:Value → Shared → Prop} {s:Shared} {env:Env} {l r1 r2:Expr} {o1 o2:CmpOp} {pos:Pos} {Q:Value → Shared → Prop}
  (h:wpAny M A (eval l env) (fun a s₁ => wpAny M A (eval r1 env) (fun b s₂ => wpAny M A (compareOp o1 a b) (fun c s₃ => wpAny M A (truthy c)
   (fun t s₄ => if t then wpAny M A (eval r2 env) (fun b' s₅ => wpAny M A (compareOp o2 b b') Q E s₅) E s₄ else Q c s₄) E s₃) E s₂) E s₁) E s)
  (hm:behindInMarks o2 r2 = false):wpAny M A (eval (.Compare l [o1,o2] [r1,r2] pos) env) Q E s:=by
 rw [arm_eval_Compare]
 refine wpAny_bind (wpAny_mono h (fun a s₁ h₁ => ?_) fun _ _ x => x)
 show wpAny M A (compareChain pos a [o1,o2] [eval r1 env,markedBehindIn o2 r2 (eval r2 env)]) Q E s₁
 rw [markedBehindIn_of_false hm]
 show wpAny M A (holding [a] (eval r1 env) >>= _) Q E s₁
 refine wpAny_bind (wpAny_holding (wpAny_mono h₁ (fun b s₂ h₂ => ?_) fun _ _ x => x))
 refine wpAny_bind (wpAny_standAt (wpAny_bind (wpAny_holding (wpAny_mono h₂ (fun c s₃ h₃ => ?_) fun _ _ x => x))))
 refine wpAny_bind (wpAny_release (wpAny_bind (wpAny_holding (wpAny_mono h₃ (fun t s₄ h₄ => ?_) fun _ _ x => x))))
 cases t with
 | false => exact wpAny_pure h₄
 | true =>
  rw [if_pos rfl] at h₄
  show wpAny M A (holding [b] (eval r2 env) >>= _) Q E s₄
  refine wpAny_bind (wpAny_holding (wpAny_mono h₄ (fun b' s₅ h₅ => ?_) fun _ _ x => x))
  exact wpAny_bind (wpAny_standAt (Z6 h₅))
end
noncomputable def H0:Heap:={}
theorem Zev (a:Addr):H0.get? a = none:=by simp [H0,Heap.get?]
noncomputable def Zlj (h:Heap) (L:Addr):List (Addr × Obj):=(List.range h.objs.size).filterMap fun a => if a = L then none else (h.get? a).map fun o => (a,o)
theorem ZmG {h:Heap} {L a:Addr} {o:Obj} (e:h.get? a = some o) (n:a ≠ L):(a,o) ∈ Zlj h L:=by
 unfold Zlj
 rw [List.mem_filterMap]
 exact ⟨a,List.mem_range.mpr (Heap.lt_size e),by rw [if_neg n,e];rfl⟩
theorem ZkK {h:Heap} {L:Addr} {p:Addr × Obj} (e:p ∈ Zlj h L):h.get? p.1 = some p.2 ∧ p.1 ≠ L:=by
 unfold Zlj at e
 rw [List.mem_filterMap] at e
 obtain ⟨a,_,e⟩:=e
 split at e
 ·cases e
 ·cases q:h.get? a with
  | none => rw [q] at e;cases e
  | some o => rw [q] at e;cases e;exact ⟨q,by assumption⟩
theorem Zcz {h:Heap} {L:Addr}:News H0 L h (Zlj h L):=fun p hp => ⟨(ZkK hp).1,(ZkK hp).2,Zev _⟩
section
variable {h₀:Heap} {L:Addr} {N:List Str} {ρ:List (Option V)} {ι:Ix} {P:Z2} {σ:List AO} {h:Heap}
theorem St.rule (S:St h₀ L N ρ ι P σ h):∃ m,Fr H0 L h m ∧ ∀ {h'},Fr H0 L h' m → News H0 L h' (Zlj h L) → St h₀ L N ρ ι P σ h' ∧ ∀ b o,b ≠ L → h.get? b = some o → h'.get? b = some o:=by
 obtain ⟨m,hm,hv⟩:=S.ns
 refine ⟨m,⟨hm,fun b o e => (by rw [Zev] at e;cases e),by simp [H0]⟩,fun {h'} F' N' => ?_⟩
 have k:∀ b o,b ≠ L → h.get? b = some o → h'.get? b = some o:=fun b o n e => (N' _ (ZmG e n)).1
 refine ⟨⟨S.base,fun b o e => k b o (fun q => by subst q;rw [S.sep.PL] at e;cases e) (S.keep b o e),⟨m,F'.ns,hv⟩,S.len,fun i ao a d e1 e2 => ?_,S.sep⟩,k⟩
 obtain ⟨_,_,n1,n2⟩:=S.sep.off i a d e2
 exact (S.objs i ao a d e1 e2).same (List.prefix_refl _) (.refl _) (fun _ e => k _ _ n1 e) fun _ e => k _ _ n2 e
theorem St.addAt {h':Heap} (S:St h₀ L N ρ ι P σ h) (S':St h₀ L N ρ ι P σ h') {a:Addr} {ao:AO} (ha:h.objs.size ≤ a) (r:AOR (ι ++ [(a,a)]) P h' ao a a):St h₀ L N ρ (ι ++ [(a,a)]) P (σ ++ [ao]) h':=by
 have pr:ι <+: ι ++ [(a,a)]:=List.prefix_append _ _
 have hP:P a = none:=by
  cases e:P a with
  | none => rfl
  | some o => exact absurd (Heap.lt_size (S.keep _ _ e)) (Nat.not_lt.mpr ha)
 have hL:a ≠ L:=fun q => by subst q;exact absurd S.ltL (Nat.not_lt.mpr ha)
 have hf:∀ (i:Nat) (x y:Addr),ι[i]? = some (x,y) → a ≠ x ∧ a ≠ y:=fun i x y e => ⟨fun q => (by subst q;exact absurd (S.freshI e).1 (Nat.not_lt.mpr ha)),fun q => (by subst q;exact absurd (S.freshI e).2 (Nat.not_lt.mpr ha))⟩
 obtain ⟨m,hm,hv⟩:=S'.ns
 have old:∀ (i:Nat) (x y:Addr),(ι ++ [(a,a)])[i]? = some (x,y) → ι[i]? = some (x,y) ∨ (i = ι.length ∧ x = a ∧ y = a):=fun i x y e => by
  rw [List.getElem?_append] at e
  split at e
  ·exact .inl e
  ·rename_i hi
   have:i - ι.length = 0:=by
    cases q:i - ι.length with
    | zero => rfl
    | succ n => rw [q] at e;simp at e
   rw [this] at e
   simp at e
   exact .inr ⟨by omega,e.1.symm,e.2.symm⟩
 refine ⟨S'.base,S'.keep,⟨m,hm,fun i n v e1 e2 => ?_⟩,by simp [S'.len],fun i ao' x y e1 e2 => ?_,S'.sep.PL,fun i x y e => ?_,fun i j x y x' y' e1 e2 hne => ?_⟩
 ·obtain ⟨x,hx,hr⟩:=hv i n v e1 e2
  exact ⟨x,hx,hr.mono pr (.refl _)⟩
 ·rcases old i x y e2 with e | ⟨e,rfl,rfl⟩
  ·have:i < σ.length:=by
    rw [← S.len]
    exact (List.getElem?_eq_some_iff.mp e).1
   rw [List.getElem?_append_left this] at e1
   exact (S'.objs i ao' x y e1 e).same pr (.refl _) (fun _ e => e) fun _ e => e
  ·rw [e,S.len] at e1
   simp at e1
   subst e1
   exact r
 ·rcases old i x y e with e | ⟨_,rfl,rfl⟩
  ·exact S'.sep.off i x y e
  ·exact ⟨hP,hP,hL,hL⟩
 ·rcases old i x y e1 with f1 | ⟨q1,z1,z2⟩ <;> rcases old j x' y' e2 with f2 | ⟨q2,z3,z4⟩
  ·exact S.sep.apart i j x y x' y' f1 f2 hne
  ·rw [z3,z4]
   have:=hf i x y f1
   exact ⟨this.1.symm,this.1.symm,this.2.symm,this.2.symm⟩
  ·rw [z1,z2]
   have:=hf j x' y' f2
   exact ⟨this.1,this.2,this.1,this.2⟩
  ·exact absurd (q1.trans q2.symm) hne
end
theorem VRs.inv1 {ι P a xs} (h:VRs ι P [a] xs):∃ x,xs = [x] ∧ VR ι P a x:=by
 obtain ⟨x,y,rfl,h1,h2⟩:=h.inv
 exact ⟨x,by rw [h2.inv0],h1⟩
theorem VRs.inv2 {ι P a b xs} (h:VRs ι P [a,b] xs):∃ x y,xs = [x,y] ∧ VR ι P a x ∧ VR ι P b y:=by
 obtain ⟨x,_,rfl,h1,h2⟩:=h.inv
 obtain ⟨y,rfl,h3⟩:=h2.inv1
 exact ⟨x,y,rfl,h1,h3⟩
theorem VRs.inv3 {ι P a b c xs} (h:VRs ι P [a,b,c] xs):∃ x y z,xs = [x,y,z] ∧ VR ι P a x ∧ VR ι P b y ∧ VR ι P c z:=by
 obtain ⟨x,_,rfl,h1,h2⟩:=h.inv
 obtain ⟨y,z,rfl,h3⟩:=h2.inv2
 exact ⟨x,y,z,rfl,h1,h3⟩
section
variable {d:Nat} {f:List Value → Sem Value} {σ σ':List AO} {v:V}
theorem OpV.one {a:V} (h:∀ (c:Cx) ι P s x,Rm c.w c.h₀ c.A d → c.St ι P σ s.heap → VR ι P a x → Zf6 c (f [x]) ι P v σ' s):OpV d f [a] σ v σ':=by
 intro c ι P s xs R S hx
 obtain ⟨x,rfl,h1⟩:=hx.inv1
 exact h c ι P s x R S h1
theorem OpV.two {a b:V} (h:∀ (c:Cx) ι P s x y,Rm c.w c.h₀ c.A d → c.St ι P σ s.heap → VR ι P a x → VR ι P b y → Zf6 c (f [x,y]) ι P v σ' s):OpV d f [a,b] σ v σ':=by
 intro c ι P s xs R S hx
 obtain ⟨x,y,rfl,h1,h2⟩:=hx.inv2
 exact h c ι P s x y R S h1 h2
theorem OpV.more {d':Nat} {as:List V} (h:OpV d f as σ v σ') (hd:d ≤ d':=by decide):OpV d' f as σ v σ':=by
 intro c ι P s xs R S hx
 exact h c ι P s xs ⟨R.gl,by have:=R.depth;omega,by have:=R.units;omega,R.hand⟩ S hx
theorem OpV.ints2 {i j r:Int} (h:∀ (c:Cx) s t u (Q:Value → Shared → Prop),Rm c.w c.h₀ c.A d → (∀ tk z,Q (.int r z) { s with toks:=tk }) → PySem.wpAny (model pw c.w) c.A (f [.int i t,.int j u]) Q c.E s):OpV d f [.int i,.int j] σ (.int r) σ:=by
 refine .two fun c ι P s x y R S h1 h2 Q k => ?_
 obtain ⟨t,rfl⟩:=h1.int'
 obtain ⟨u,rfl⟩:=h2.int'
 exact up (h c s t u Q R fun tk z => Ze S k tk _ .int)
theorem OpV.ints2b {i j:Int} {r:Bool} (h:∀ (c:Cx) s t u (Q:Value → Shared → Prop),Rm c.w c.h₀ c.A d → (∀ tk,Q (.bool r) { s with toks:=tk }) → PySem.wpAny (model pw c.w) c.A (f [.int i t,.int j u]) Q c.E s):OpV d f [.int i,.int j] σ (.bool r) σ:=by
 refine .two fun c ι P s x y R S h1 h2 Q k => ?_
 obtain ⟨t,rfl⟩:=h1.int'
 obtain ⟨u,rfl⟩:=h2.int'
 exact up (h c s t u Q R fun tk => Ze S k tk _ .bool)
end
section
variable {d:Nat} {σ:List AO} {a b:Int}
theorem ZK:OpV d (Bin .Add) [.int a,.int b] σ (.int (a + b)) σ:=.ints2 fun _ s _ _ _ _ k => add_int (k (s.toks + 1) s.toks)
theorem Z7:OpV d (Bin .Sub) [.int a,.int b] σ (.int (a - b)) σ:=.ints2 fun _ s _ _ _ _ k => sub_int (k (s.toks + 1) s.toks)
theorem ZjS (h:IntMulOk a b):OpV d (Bin .Mult) [.int a,.int b] σ (.int (a * b)) σ:=.ints2 fun _ s _ _ _ _ k => mul_int (k (s.toks + 1) s.toks) h
theorem Zw (h:0 < b) (h':b < 2 ^ 200):OpV d (Bin .FloorDiv) [.int a,.int b] σ (.int (a / b)) σ:=.ints2 fun _ s _ _ _ _ k => by
 refine floordiv_int (by omega) ?_ (.inl (PyProof.noPylong_of_log2 ?_))
 ·rw [Int.fdiv_eq_ediv_of_nonneg _ (by omega)];exact k (s.toks + 1) s.toks
 ·have:b.natAbs < 2 ^ 200:=by omega
  have:=(Nat.log2_lt (n:=b.natAbs) (k:=200) (by omega)).mpr this
  omega
theorem Z8 (h:0 < b):OpV d (Bin .Mod) [.int a,.int b] σ (.int (a % b)) σ:=.ints2 fun _ s _ _ _ _ k => by
 refine mod_int (by omega) ?_
 rw [Int.fmod_eq_emod_of_nonneg _ (by omega)];exact k (s.toks + 1) s.toks
theorem ZpX:OpV d (Bin .BitAnd) [.int a,.int b] σ (.int (Builtin.bitAnd a b)) σ:=.ints2 fun _ s _ _ _ _ k => and_int (k (s.toks + 1) s.toks)
theorem ZjT (h0:0 ≤ b) (h1:b ≤ 1000) (h2:a.natAbs < 2 ^ 64):OpV d (Bin .LShift) [.int a,.int b] σ (.int (a * 2 ^ b.toNat)) σ:=.ints2 fun _ s _ _ _ _ k => lshift_int_small h0 (by omega) h2 (k (s.toks + 1) s.toks)
theorem Ze5 (h0:0 ≤ b) (h1:b ≤ 1000) (h2:a.natAbs < 2 ^ 64):OpV d (Bin .Pow) [.int a,.int b] σ (.int (a ^ b.toNat)) σ:=.ints2 fun _ s _ _ _ _ k => pow_int_small h0 (by omega) h2 (k (s.toks + 1) s.toks)
theorem op_eq:OpV d (Cmp .Eq) [.int a,.int b] σ (.bool (a == b)) σ:=.ints2b fun _ s _ _ _ _ k => eq_int (k s.toks)
theorem Zew:OpV d (Cmp .NotEq) [.int a,.int b] σ (.bool (a != b)) σ:=.ints2b fun _ s _ _ _ _ k => ne_int (k s.toks)
theorem Zbs:OpV d (Cmp .Lt) [.int a,.int b] σ (.bool (decide (a < b))) σ:=.ints2b fun _ s _ _ _ _ k => lt_int (k s.toks)
theorem Zhx:OpV d (Cmp .LtE) [.int a,.int b] σ (.bool (decide (a ≤ b))) σ:=.ints2b fun _ s _ _ _ _ k => le_int (k s.toks)
theorem ZbW:OpV d (Cmp .Gt) [.int a,.int b] σ (.bool (decide (b < a))) σ:=.ints2b fun _ s _ _ _ _ k => gt_int (k s.toks)
theorem Zex:OpV d (Cmp .GtE) [.int a,.int b] σ (.bool (decide (b ≤ a))) σ:=.ints2b fun _ s _ _ _ _ k => ge_int (k s.toks)
noncomputable abbrev Inp (op:Operator):List Value → Sem Value:=fun l => match l with | [a,b] => inplaceOp op a b | _ => unsupported ""
theorem Zh2:OpV d (Inp .Add) [.int a,.int b] σ (.int (a + b)) σ:=.ints2 fun _ s _ _ _ _ k => wpAny_iadd_int (k (s.toks + 1) s.toks)
theorem ZmH:OpV d (Un .USub) [.int a] σ (.int (-a)) σ:=.one fun c ι P s x R S h1 Q k => by
 obtain ⟨t,rfl⟩:=h1.int'
 exact up (neg_int (Ze S k (s.toks + 1) _ .int))
theorem Zgb:OpV d (Fn (.builtin "abs")) [.int a] σ (.int a.natAbs) σ:=.one fun c ι P s x R S h1 Q k => by
 obtain ⟨t,rfl⟩:=h1.int'
 refine up (call_abs_int fun u tk => ?_)
 have:=Ze S k tk (.int a.natAbs u) .int
 have e:(if a < 0 then -a else a) = a.natAbs:=by
  split <;> omega
 rw [e];exact this
theorem ZpY:OpV d (Fn (.builtin "max")) [.int a,.int b] σ (.int (max a b)) σ:=.two fun c ι P s x y R S h1 h2 Q k => by
 obtain ⟨t,rfl⟩:=h1.int'
 obtain ⟨u,rfl⟩:=h2.int'
 obtain ⟨m,F,B⟩:=S.rule
 refine up (max_two_N R.hand F Zcz fun h' tk F' N' => ?_)
 have:=k ι P h' tk (List.prefix_refl _) (.refl _) (B F' N').1 (.int (max a b) (if b > a then u else t)) .int
 have e:(if b > a then b else a) = max a b:=by
  split <;> omega
 rw [e];exact this
theorem VR.not_none {ι P} {u:V} {x:Value} (h:VR ι P u x) (hu:u ≠ .none) (hx:∀ x,u ≠ .ext x):(x == Value.none) = false:=by
 cases h <;> first | rfl | exact absurd rfl hu | exact absurd rfl (hx _)
theorem ZmI {u:V} (hu:u ≠ .none) (hx:∀ x,u ≠ .ext x):OpV d (Cmp .Is) [u,.none] σ (.bool false) σ:=.two fun c ι P s x y R S h1 h2 Q k => by
 obtain rfl:=h2.none'
 refine up (is_none ?_)
 have e:(x == Value.none) = false:=h1.not_none hu hx
 rw [e];exact Ze S k s.toks _ .bool
theorem ZmJ:OpV d (Cmp .Is) [.none,.none] σ (.bool true) σ:=.two fun c ι P s x y R S h1 h2 Q k => by
 obtain rfl:=h1.none'
 obtain rfl:=h2.none'
 exact up (is_none (Ze S k s.toks _ .bool))
theorem Zlk {u:V} (hu:u ≠ .none) (hx:∀ x,u ≠ .ext x):OpV d (Cmp .IsNot) [u,.none] σ (.bool true) σ:=.two fun c ι P s x y R S h1 h2 Q k => by
 obtain rfl:=h2.none'
 refine up (isNot_none ?_)
 have e:(x == Value.none) = false:=h1.not_none hu hx
 rw [e];exact Ze S k s.toks _ .bool
theorem Zll:OpV d (Cmp .IsNot) [.none,.none] σ (.bool false) σ:=.two fun c ι P s x y R S h1 h2 Q k => by
 obtain rfl:=h1.none'
 obtain rfl:=h2.none'
 exact up (isNot_none (Ze S k s.toks _ .bool))
theorem V.bytesEq {b c:Array UInt8}:(b.toList == c.toList) = (KBw.bInts b == KBw.bInts c):=by
 rw [Bool.eq_iff_iff,beq_iff_eq,beq_iff_eq]
 unfold KBw.bInts
 constructor
 ·intro h;rw [h]
 ·intro h
  exact (List.map_inj_right (fun x y q => UInt8.toNat_inj.mp (Int.ofNat.inj q))).mp h
variable {ks ls:List Int}
theorem Z0 (h:ks.length + ls.length ≤ 1000000):OpV d (Bin .Add) [.bytes ks,.bytes ls] σ (.bytes (ks ++ ls)) σ:=.two fun c ι P s x y R S h1 h2 Q k => by
 obtain ⟨b,t,rfl,e1⟩:=h1.bytes'
 obtain ⟨b',t',rfl,e2⟩:=h2.bytes'
 exact up (KBa.add_K e1 e2 (by omega) fun t' k' e => Ze S k k' _ (.bytes e))
theorem ZpZ:OpV d (Cmp .Eq) [.bytes ks,.bytes ls] σ (.bool (ks == ls)) σ:=.two fun c ι P s x y R S h1 h2 Q k => by
 obtain ⟨b,t,rfl,rfl⟩:=h1.bytes'
 obtain ⟨b',t',rfl,rfl⟩:=h2.bytes'
 refine up (eq_bytes ?_)
 rw [V.bytesEq]
 exact Ze S k s.toks _ .bool
theorem ZmK:OpV d (Cmp .NotEq) [.bytes ks,.bytes ls] σ (.bool (ks != ls)) σ:=.two fun c ι P s x y R S h1 h2 Q k => by
 obtain ⟨b,t,rfl,rfl⟩:=h1.bytes'
 obtain ⟨b',t',rfl,rfl⟩:=h2.bytes'
 refine up (ne_bytes ?_)
 unfold bne
 rw [V.bytesEq]
 exact Ze S k s.toks _ .bool
theorem ZdD (h:ks.length ≤ 1000000):OpV d (Fn (.builtin "len")) [.bytes ks] σ (.int ks.length) σ:=.one fun c ι P s x R S h1 Q k => by
 obtain ⟨b,t,rfl,e⟩:=h1.bytes'
 exact up (KBw.len_K e (by omega) (Ze S k (s.toks + 2) _ .int))
noncomputable def rep (n:Int) (ks:List Int):List Int:=(List.replicate n.toNat ks).flatten
theorem ZkL (h0:-1048576 ≤ a) (h1:a ≤ 1048576) (h2:ks.length ≤ 16) (h3:ks ≠ []):OpV d (Bin .Mult) [.bytes ks,.int a] σ (.bytes (rep a ks)) σ:=.two fun c ι P s x y R S r1 r2 Q k => by
 obtain ⟨⟨b⟩,t,rfl,rfl⟩:=r1.bytes'
 obtain ⟨u,rfl⟩:=r2.int'
 have hb:b ≠ []:=fun q => h3 (by subst q;rfl)
 refine up (bytes_mul_any hb h0 h1 (by simpa [KBw.bInts] using h2) fun t' k' => Ze S k k' _ (.bytes ?_))
 unfold KBw.bInts rep
 simp [List.map_flatten]
end
noncomputable def Sub:List Value → Sem Value
 | [o,i] => getitemInPython o >>= fun p => subscripted (.Constant .none 0 default) p o i
 | _ => unsupported ""
noncomputable def OpS (d:Nat) (a l u:V) (σ:List AO) (v:V) (σ':List AO):Prop :=
 ∀ (c:Cx) ι P s x y z,Rm c.w c.h₀ c.A d → c.St ι P σ s.heap → VR ι P a x → VR ι P l y → VR ι P u z → ∀ Q:Value → Shared → Prop,Aft c ι P σ' s (fun ι' P' s' => ∀ x,VR ι' P' v x → Q x s') →
  wpAny (model pw c.w) c.A (getitemInPython x >>= fun p => subscripted (.Slice none none none default) p x (.ref s.heap.objs.size)) Q c.E { s with heap:=s.heap.push { cls:=.type "slice",data:=.fields #[y,z,.none] } }
theorem Zgc {o i:Value}:subscriptTail (.Name Str.empty default) (.Constant .none 0 default) o i = Sub [o,i]:=by
 unfold subscriptTail Sub letTemporaryGo
 simp
theorem Zd9 {o i:Value}:subscriptTail (.Name Str.empty default) (.Slice none none none default) o i = (getitemInPython o >>= fun p => subscripted (.Slice none none none default) p o i):=by
 unfold subscriptTail letTemporaryGo
 simp
theorem ZiQ {w:World} {A:Around} {E:Value → Shared → Prop} {s:Shared} {value slice:Expr} {o i:Value} {Q:Value → Shared → Prop} {t:Bool → Sem Value} (ht:∀ p,subscripted slice p o i = t p)
  (h:wpAny (model pw w) A (getitemInPython o >>= t) Q E s):wpAny (model pw w) A (subscriptTail value slice o i) Q E s:=by
 have e:subscriptTail value slice o i = (getitemInPython o >>= t) >>= fun r => letTemporaryGo value o r >>= fun _ => pure r:=by
  unfold subscriptTail
  simp [ht]
 rw [e]
 exact wpAny_bind (wpAny_mono h (fun r s' h' => wpAny_bind (wpAny_letTemporaryGo (wpAny_pure h'))) fun _ _ x => x)
section
variable {sc:Scope} {d:Nat} {ρ:List (Option V)} {σ σ₁ σ₂ σ₃ σ₄:List AO}
theorem Zlm {pe:Expr} {e:ME} (C:CE sc pe e) (p:Bool) (o i:Value):subscripted pe p o i = subscripted (.Constant .none 0 default) p o i:=by
 have h:=C.dull
 cases pe <;> cases p <;> first | rfl | exact absurd h (Nat.lt_irrefl 0)
theorem TE.sub {a i:ME} {x y v:V} (h1:TE sc d a ρ σ x σ₁) (h2:TE sc d i ρ σ₁ y σ₂) (h3:OpV d Sub [x,y] σ₂ v σ₃):TE sc d (.sub a i) ρ σ v σ₃:=by
 intro w h₀ A env pe ι P s E F C S Q k
 obtain ⟨_,_,_,rfl,c1,c2⟩:=C
 refine Zf5 (h1 w h₀ A env _ ι P s E F c1 S _ ?_)
 intro ι₁ P₁ g₁ t₁ i₁ p₁ S₁ x₁ v₁
 refine h2 w h₀ A env _ ι₁ P₁ { s with heap:=g₁,toks:=t₁ } E F c2 S₁ _ ?_
 intro ι₂ P₂ g₂ t₂ i₂ p₂ S₂ x₂ v₂
 exact ZiQ (fun p => Zlm c2 p _ _) (h3 (cx w h₀ A env sc ρ E) ι₂ P₂ { s with heap:=g₂,toks:=t₂ } _ F.toRm S₂ (.cons (v₁.mono i₂ p₂) (.cons v₂ .nil)) _ ((k.up i₁ p₁).up i₂ p₂))
noncomputable def TO (sc:Scope) (d:Nat) (e:Option ME) (ρ:List (Option V)) (σ:List AO) (v:V) (σ':List AO):Prop :=
 ∀ w h₀ A env pe ι P s E,Fx w h₀ A env sc d → CEo sc pe e → St h₀ env.locals (Zs sc) ρ ι P σ s.heap → Zf6 (cx w h₀ A env sc ρ E) (evalPart pe env) ι P v σ' s
theorem TO.none:TO sc d none ρ σ .none σ:=by
 intro w h₀ A env pe ι P s E F C S Q k
 cases C
 exact wpAny_pure (Ze S k s.toks _ .none)
theorem TO.some {e:ME} {v:V} (h:TE sc d e ρ σ v σ₁):TO sc d (some e) ρ σ v σ₁:=by
 intro w h₀ A env pe ι P s E F C S Q k
 obtain ⟨_,rfl,c⟩:=C
 exact h w h₀ A env _ ι P s E F c S Q k
theorem TE.slc {a:ME} {l u:Option ME} {x y z v:V} (h1:TE sc d a ρ σ x σ₁) (h2:TO sc d l ρ σ₁ y σ₂) (h3:TO sc d u ρ σ₂ z σ₃) (h4:OpS d x y z σ₃ v σ₄):TE sc d (.slc a l u) ρ σ v σ₄:=by
 intro w h₀ A env pe ι P s E F C S Q k
 obtain ⟨_,_,_,_,_,rfl,c1,c2,c3⟩:=C
 refine Zf5 (h1 w h₀ A env _ ι P s E F c1 S _ ?_)
 intro ι₁ P₁ g₁ t₁ i₁ p₁ S₁ x₁ v₁
 refine ZiM (h2 w h₀ A env _ ι₁ P₁ { s with heap:=g₁,toks:=t₁ } E F c2 S₁ _ ?_)
 intro ι₂ P₂ g₂ t₂ i₂ p₂ S₂ x₂ v₂
 refine h3 w h₀ A env _ ι₂ P₂ { s with heap:=g₂,toks:=t₂ } E F c3 S₂ _ ?_
 intro ι₃ P₃ g₃ t₃ i₃ p₃ S₃ x₃ v₃
 rw [evalPart_none]
 refine wpAny_pure ?_
 exact ZiQ (fun p => by cases p <;> rfl) (h4 (cx w h₀ A env sc ρ E) ι₃ P₃ { s with heap:=g₃,toks:=t₃ } _ _ _ F.toRm S₃ (v₁.mono (i₂.trans i₃) (p₂.trans p₃)) (v₂.mono i₃ p₃) v₃ _ (((k.up i₁ p₁).up i₂ p₂).up i₃ p₃))
end
section
variable {d:Nat} {σ:List AO} {a b:Int} {ks:List Int}
theorem ZaP (h0:0 ≤ a) (h1:a < ks.length) (hz:ks.length ≤ 1000000):OpV d Sub [.bytes ks,.int a] σ (.int (ks.getD a.toNat 0)) σ:=.two fun c ι P s x y R S r1 r2 Q k => by
 obtain ⟨b,t,rfl,e⟩:=r1.bytes'
 obtain ⟨u,rfl⟩:=r2.int'
 rw [← Zgc]
 exact up (KBw.item_K e (by omega) h0 h1 fun t' k' _ _ => Ze S k k' _ .int)
noncomputable def IsL (σ:List AO) (v:V) (vs:List V):Prop:=match v with
 | .ref k => σ[k]? = some (.list vs)
 | .flst ws => vs = ws
 | _ => False
theorem IsL.items {h₀ L N ρ ι P h} (S:St h₀ L N ρ ι P σ h) {v:V} {vs:List V} {x:Value} (l:IsL σ v vs) (r:VR ι P v x):∃ a items n,x = .ref a ∧ h.get? a = some { cls:=.type "list",data:=.seq items n } ∧ VRs ι P vs items.toList:=by
 cases r with
 | flst e es => cases l;exact ⟨_,_,_,rfl,S.keep _ _ e,es⟩
 | ref e =>
  obtain ⟨_,items,n,e1,e2⟩:=S.objs _ _ _ _ l e
  exact ⟨_,items,n,rfl,e1,e2⟩
 | _ => exact l.elim
theorem Zq {h:Heap} {a:Addr} {items:Array Value} {n:Nat} (e:h.get? a = some { cls:=.type "list",data:=.seq items n }):h.IsList a items:=⟨_,e,rfl,n,rfl⟩
theorem ZcA {v u:V} {vs:List V} (l:IsL σ v vs) (h0:0 ≤ a) (h1:a < 2 ^ 60) (hu:vs[a.toNat]? = some u):OpV d Sub [v,.int a] σ u σ:=.two fun c ι P s x y R S r1 r2 Q k => by
 obtain ⟨q,items,n,rfl,e1,e2⟩:=l.items S r1
 obtain ⟨t,rfl⟩:=r2.int'
 obtain ⟨z,hz,hr⟩:=e2.get hu
 rw [← Zgc]
 exact up (item_list (Zq e1) h0 (by omega) (by simpa using hz) (Ze S k s.toks _ hr))
theorem Zey {v:V} {vs:List V} (l:IsL σ v vs) (h:vs.length ≤ 1000000):OpV d (Fn (.builtin "len")) [v] σ (.int vs.length) σ:=.one fun c ι P s x R S r1 Q k => by
 obtain ⟨q,items,n,rfl,e1,e2⟩:=l.items S r1
 have e:items.size = vs.length:=by rw [e2.length];simp
 refine up (len_list (Zq e1) (by omega) ?_)
 rw [e]
 exact Ze S k (s.toks + 2) _ .int
inductive EndV:V → Option Int → Prop
 | none:EndV .none none
 | int {i}:EndV (.int i) (some i)
theorem EndV.part {ι P v x} {o:Option Int} (e:EndV v o) (r:VR ι P v x):IsPart x o:=by
 cases e with
 | none => obtain rfl:=r.none';exact .none
 | int => obtain ⟨_,rfl⟩:=r.int';exact .int _ _
noncomputable def ZbM {α:Type} (ks:List α) (lo hi:Option Int):List α:=(ks.drop (lo.elim 0 (clipAt ks.length))).take (hi.elim ks.length (clipAt ks.length) - lo.elim 0 (clipAt ks.length))
theorem Zbt {l u:V} {lo hi:Option Int} (hl:EndV l lo) (hu:EndV u hi) (hz:ks.length ≤ 1000000):OpS d (.bytes ks) l u σ (.bytes (ZbM ks lo hi)) σ:=by
 intro c ι P s x y z R S r1 r2 r3 Q k
 obtain ⟨b,t,rfl,e⟩:=r1.bytes'
 obtain ⟨m,F,B⟩:=S.rule
 rw [← Zd9]
 refine up (KBc.slice_K F Zcz e (hl.part r2) (hu.part r3) (by omega) fun h' t' k' F' N' e' => ?_)
 exact k ι P h' k' (List.prefix_refl _) (.refl _) (B F' N').1 _ (.bytes e')
theorem VRs.cut {ι P} {vs:List V} {xs:List Value} (h:VRs ι P vs xs) (lo hi:Option Int):VRs ι P (ZbM vs lo hi) (ZbM xs lo hi):=by
 unfold ZbM
 rw [h.length]
 exact (h.drop _).take _
theorem ZiR {v l u:V} {vs:List V} {lo hi:Option Int} (il:IsL σ v vs) (hl:EndV l lo) (hu:EndV u hi) (hz:vs.length ≤ 1000000):OpS d v l u σ (.ref σ.length) (σ ++ [.list (ZbM vs lo hi)]):=by
 intro c ι P s x y z R S r1 r2 r3 Q k
 obtain ⟨q,items,n,rfl,e1,e2⟩:=il.items S r1
 rw [← Zd9]
 have S1:=S.push { cls:=.type "slice",data:=.fields #[y,z,.none] }
 have hs:items.size = items.toList.length:=by simp
 have e:items.size = vs.length:=by rw [e2.length];simp
 refine up (slice_listK (Zq e1) (hl.part r2) (hu.part r3) ?_ (hsz:=by rw [sizeLine_eq];omega))
 have S2:=S1.alloc (o:={ cls:=.type "list",data:=.seq (slicePick items lo hi none) }) (ao:=.list (ZbM vs lo hi)) ⟨rfl,_,0,Heap.get?_push_size _ rfl,by
  rw [slicePick_plain]
  have:=(e2.cut lo hi).mono (List.prefix_append ι [((s.heap.push { cls:=.type "slice",data:=.fields #[y,z,.none] }).objs.size,(s.heap.push { cls:=.type "slice",data:=.fields #[y,z,.none] }).objs.size)]) (.refl _)
  unfold ZbM at this ⊢
  rw [← hs] at this
  exact this⟩
 rw [Heap.size_push] at S2
 exact k _ P _ s.toks (List.prefix_append _ _) (.refl _) S2 _ (.ref (d:=s.heap.objs.size + 1) S.last)
end
end Mine
section
namespace Mine
open Builtin
theorem ZmL:mroOf (.type "bytearray") = pure [.type "bytearray",.type "object"]:=by rw [mroOf_type];kernel_rfl
theorem Zg3:typeLookup (.type "bytearray") "__new__" = pure (some (.builtin "bytearray.__new__")):=by rw [typeLookup_type,builtinLookup_eq_fast];kernel_rfl
theorem ba_slot_init:Slot "bytearray" "__init__" "bytearray.__init__" :=
 .of (owner:="bytearray") (n:="__init__") (by rw [typeLookup_type,builtinLookup_eq_fast];kernel_rfl) (by decide +kernel) (by decide +kernel) (by decide +kernel)
  (by first | exact .inl (by decide +kernel) | exact .inr (by decide +kernel)) (by rw [isSubtype_type];kernel_rfl)
theorem ba_called:TypeCalled "bytearray" "bytearray.__new__" "bytearray.__init__" :=
 ⟨by decide +kernel,by decide +kernel,⟨_,_,ZmL⟩,madeBy_type ZmL Zg3 (by decide +kernel),by decide +kernel,by rw [isSubtype_type];kernel_rfl,ba_slot_init⟩
theorem ZiS:checkTypeCall "bytearray" ⟨[],[]⟩ = pure ():=by kernel_rfl
theorem ZjU:checkBuiltinCall "bytearray.__new__" ⟨[.type "bytearray"],[]⟩ = pure ():=by kernel_rfl
theorem Zez:plainId "bytearray.__new__" = true:=by decide +kernel
theorem Zh3:entryFor table "bytearray.__new__" = some Builtin.«list.__new__»:=entryFor_alias (id':="list.__new__") (by kernel_rfl) (by decide +kernel) (by decide +kernel) (by kernel_rfl)
theorem Zg4:entryFor table "bytearray.__init__" = some Builtin.«bytearray.__init__»:=entryFor_of_tree (by kernel_rfl)
set_option maxRecDepth 1000000 in
set_option maxHeartbeats 4000000 in
theorem ZmM:("bytearray.__new__".splitOn ".__new__").headD "" = "bytearray":=by simp +decide [String.splitOn,String.splitOnAux]
theorem Zh4 (a:Value):argsOk "bytearray.__init__" ⟨[a],[]⟩:=by unfold argsOk;kernel_rfl
theorem ba_sub:isSubtype (.type "bytearray") (.type "bytearray") = pure true:=by rw [isSubtype_type];kernel_rfl
section
variable {prog:Program} {w:World} {A:Around} {E:Value → Shared → Prop} {s:Shared}
theorem Zp0 {Q₁:Value → Shared → Prop} (h:Q₁ (.ref s.heap.objs.size) { s with heap:=s.heap.push { cls:=.type "bytearray",data:=.bytearray #[] } }) :
  PySem.codeAny (model prog w) A (.call (.builtin "bytearray.__new__") ⟨[.type "bytearray"],[]⟩) (wants Q₁ E) s:=by
 refine PySem.codeAny_of_tree ?_
 show PySem.wpAny _ A.in1 (do checkBuiltinCall "bytearray.__new__" ⟨[.type "bytearray"],[]⟩;again (.builtin "bytearray.__new__" ⟨[.type "bytearray"],[]⟩)) _ _ s
 refine PySem.wpAny_bind (PySem.wpAny_of_eq ZjU (PySem.wpAny_pure ⟨plainId_quiet Zez _,codeAny_builtin_stack Zh3 rfl fun p st => ?_⟩))
 rw [Around.under_plainId Zez _]
 have hsub:=ba_sub
 have hown:=ZmM
 obtain ⟨hp,g,d,tk,os⟩:=s
 simp only [hown]
 wp_walk
 exact h
end
end Mine
end
section
open PySem.Sem (wp)
namespace Mine
section
variable {prog:Program} {w:World} {A:Around} {C:Addr} {R:Result → Shared → Prop} {h:Heap} {g:Array GenState} {d:Drawn} {t:Nat} {os:OsState}
theorem Zon {α:Type} {M:Model} {A:Around} {Q:α → Shared → Prop} {E:Value → Shared → Prop} {s:Shared} {a:Addr} {p:Option Value} {k:Obj → Sem α} {o:Obj} (ho:s.heap.get? a = some o) (h:wpAny M A (k o) Q E s):wpAny M A (.load a p k) Q E s:=fun Γ q hΓ hc => ⟨o,ho,h Γ q hΓ hc⟩
theorem Zbu {α:Type} {M:Model} {A:Around} {Q:α → Shared → Prop} {E:Value → Shared → Prop} {s:Shared} {c:Bool} {a b:Sem α} (hc:c = false) (h:wpAny M A b Q E s):wpAny M A (if c = true then a else b) Q E s:=by subst hc;exact h
theorem codeAny_builtin {id:String} {args:Args} {b:Builtin} {s:Shared} (hbad:badIds.contains id = false) (hb:entryFor table id = some b)
  (h:wpAny (model prog w) (A.under (.builtin id args)) (b args) (fun fin s' => match fin with | .done f => R (.ok f) s' | .again c' => c'.quiet = true ∧ codeAny (model prog w) A c' R s') (fun e s' => R (.error e) s') s) :
  codeAny (model prog w) A (.builtin id args) R s:=by
 refine codeAny_of_tree hbad ?_
 show wpAny _ _ (match entryFor table id with | some b => b args | none => unsupported ((withoutEnding? id "#data").getD id)) _ _ s
 rw [hb];exact h
theorem ZO {id:String} {args:Args} {b:Builtin} {s:Shared} (hbad:badIds.contains id = false) (hq:(Code.builtin id args).quiet = true) (hb:entryFor table id = some b)
  (h:wpAny (model prog w) A.in1 (checkBuiltinCall id args) (fun _ s₁ => wpAny (model prog w) (A.under (.builtin id args)) (b args)
   (fun fin s' => match fin with | .done f => R (.ok f) s' | .again c' => c'.quiet = true ∧ codeAny (model prog w) A c' R s') (fun e s' => R (.error e) s') s₁)
   (fun e s' => R (.error e) s') s):codeAny (model prog w) A (.call (.builtin id) args) R s:=by
 refine codeAny_of_tree rfl ?_
 show wpAny _ A.in1 (do checkBuiltinCall id args;again (.builtin id args)) _ _ s
 exact wpAny_bind (wpAny_mono h (fun _ s₁ h₁ => wpAny_pure (And.intro hq (codeAny_builtin hbad hb h₁))) fun _ _ h' => h')
theorem ZjV:badIds.contains "type.__call__" = false:=by decide +kernel
theorem Ze6 {rest:List Value} {kw:List (Str × Value)} {fI:Addr} (Y:Makes (model prog w) h C) (hi:Looks (model prog w) h (typeLookup (.ref C) "__init__") (some (.ref fI)))
  (hb:∀ self,Looks (model prog w) h (bindSpecial (.ref fI) self) (.ref fI,[self]))
  (hq:codeAny (model prog w) (A.under (.builtin "type.__call__" ⟨.ref C :: rest,kw⟩)) (.call (.ref fI) ⟨.ref (h.objs.size + 1) :: rest,kw⟩) (InitBack (h.objs.size + 1) R) ⟨(h.push emptyDict).push (instObj C h.objs.size),g,d,t,os⟩) :
  codeAny (model prog w) A (.call (.ref C) ⟨rest,kw⟩) R ⟨h,g,d,t,os⟩:=by
 have Y':=Y
 obtain ⟨⟨oc,od,cd,sl,hC,e1,e2,e4⟩,made,base,self,top,call,typ⟩:=Y
 refine codeAny_of_tree rfl ?_
 show wpAny _ _ (callAny (.ref C) _) _ _ _
 refine Zon hC ?_
 show wpAny _ _ (callAny.viaDunder (.ref C) _) _ _ _
 unfold callAny.viaDunder
 refine wpAny_bind (up (call.at ?_))
 dsimp only
 rw [tc_bind]
 refine wpAny_bind (wpAny_pure (wpAny_bind (wpAny_pure ?_)))
 refine wpAny_pure (a:=Fin.again (.call (.builtin "type.__call__") ⟨.ref C :: rest,kw⟩)) (And.intro rfl ?_)
 refine ZO ZjV (Code.quiet_builtin _ (by decide +kernel)) entry_typeCall (up (check_slot tc_kind tc_split typ (tc_args _ _ _) ?_))
 have hm:Looks (model prog w) h (mroOf (.ref C)) cd.mro:=((Looks.ld (part:=none) hC).andThen .now).andThen .now
 unfold Builtin.«type.__call__»
 dsimp only
 refine Zbu rfl ?_
 refine wpAny_bind (up (hm.at ?_))
 refine Zbu e4 ?_
 refine wpAny_bind (up (made.at ?_))
 dsimp only
 refine wpAny_bind (wpAny_pure ?_)
 refine wpAny_bind (wpAny_holding (wpAny_call (upc (new_K Y' hi (.inl rfl) ?_))))
 have k:∀ b o,h.get? b = some o → ((h.push emptyDict).push (instObj C h.objs.size)).get? b = some o:=fun b o e => Heap.get?_push_of_some _ (Heap.get?_push_of_some _ e)
 have hx:((h.push emptyDict).push (instObj C h.objs.size)).get? (h.objs.size + 1) = some (instObj C h.objs.size):=by
  have:=Heap.get?_push_size (h.push emptyDict) (o:=instObj C h.objs.size) rfl
  rwa [Heap.size_push] at this
 have t1:Looks (model prog w) ((h.push emptyDict).push (instObj C h.objs.size)) (typeOf (.ref (h.objs.size + 1))) (.ref C):=(Looks.ld hx).andThen .now
 have s1:=self.keeps k
 have i1:=hi.keeps k
 have b1:=(hb (.ref (h.objs.size + 1))).keeps k
 have q1:Looks (model prog w) ((h.push emptyDict).push (instObj C h.objs.size)) (isInstance (.ref (h.objs.size + 1)) (.ref C)) true:=t1.andThen s1
 have q2:Looks (model prog w) ((h.push emptyDict).push (instObj C h.objs.size)) (specialOf (.ref (h.objs.size + 1)) "__init__") (some (.ref fI)):=t1.andThen i1
 refine wpAny_bind (up (q1.at ?_))
 refine Zbu rfl ?_
 refine wpAny_bind (wpAny_holding ?_)
 unfold callSpecial?
 refine wpAny_bind (up (q2.at ?_))
 dsimp only
 refine wpAny_holding (wpAny_bind (up (b1.at ?_)))
 dsimp only
 refine wpAny_bind (wpAny_call (codeAny_mono hq fun r s' z => ?_))
 rcases r with e | (v | _ | _ | _) <;> first | exact z | exact z.elim | skip
 obtain ⟨rfl,z⟩:=z
 refine wpAny_pure ?_
 dsimp only
 exact Zbu rfl (wpAny_pure z)
end
end Mine
end
section
open PySem.Sem (wp)
namespace Mine
open Builtin
section
variable {M:Model} {A:Around} {E:Value → Shared → Prop} {s:Shared}
theorem Zgd {f:Code × Pos → Bool} {Q:Bool → Shared → Prop} (hf:∀ c p,bad c = false → f (c,p) = false) (h:Q false s):wpAny M A (do return (← stack).any f) Q E s:=fun Γ p hΓ hc => by
 show Q (((Γ.code,p) :: Γ.below).any f) s
 have:((Γ.code,p) :: Γ.below).any f = false:=by
  rw [List.any_eq_false]
  intro x hx
  rw [Bool.not_eq_true]
  rcases List.mem_cons.mp hx with rfl | hx
  ·exact hf _ _ hc.1
  ·exact hf x.1 x.2 (hc.2 x hx)
 rw [this];exact h
theorem Zdh {self:Value} {Q:Bool → Shared → Prop} (h:Q false s):wpAny M A (Bytes.exported self) Q E s:=by
 unfold Bytes.exported
 refine Zgd (fun c p hb => ?_) h
 cases c with
 | builtin id args =>
  obtain ⟨ps,kw⟩:=args
  have hz:badIds.contains id = false:=hb
  have ne:∀ a,badIds.contains a = true → ¬ id = a:=fun a h q => by rw [q,h] at hz;cases hz
  delta Bytes.exported.match_1
  refine (dif_neg (ne "bytearray.__contains__" rfl)).trans ?_
  refine (dif_neg (ne "bytearray.__mod__" rfl)).trans ?_
  refine (dif_neg (ne "bytearray.__rmod__" rfl)).trans ?_
  refine (dif_neg (ne "_struct.pack_into.held" rfl)).trans ?_
  refine (dif_neg (ne "bytearray.find.held" rfl)).trans ?_
  cases ps with
  | nil => rfl
  | cons v _ =>
   show (Bytes.sameRef v self && Bytes.decodersThatHold.contains id) = false
   unfold badIds at hz
   rw [List.contains_append,Bool.or_eq_false_iff] at hz
   rw [hz.2,Bool.and_false]
 | _ => rfl
end
section
variable {prog:Program} {w:World} {A:Around} {E:Value → Shared → Prop} {s:Shared}
theorem Zhy {T:String} {name:Str} {id:String} {B:Builtin} {self:Value} {rest:List Value} {Q:Value → Shared → Prop} (slot:Slot T name id) (hT:s.TypeIs self T) (hbad:badIds.contains id = false)
  (entry:entryFor table id = some B) (args:argsOk id ⟨self :: rest,[]⟩) (h:wpAny (model prog w) A.in1 (B ⟨self :: rest,[]⟩) (fun fin s' => ∃ v,fin = .done (.ret v) ∧ Q v s') E s) :
  wpAny (model prog w) A (call (.builtin id) (self :: rest)) Q E s:=by
 refine wpAny_call (ZO hbad (plainId_quiet slot.plain _) entry ?_)
 rw [Around.under_plainId slot.plain _]
 refine up (slot.check _ _ _ _ _ _ _ _ hT args (wpAny_mono h (fun fin s' h' => ?_) fun _ _ x => x))
 obtain ⟨v,rfl,hv⟩:=h'
 exact hv
noncomputable abbrev baObj (b:Array UInt8):Obj:={ cls:=.type "bytearray",data:=.bytearray b 0 }
theorem Zcf {a:Addr} {b:Array UInt8} {Q:Unit → Shared → Prop} (h:s.heap.get? a = some (baObj b)) (q:Q () s):wpAny (model prog w) A (Bytes.checkResize (.ref a)) Q E s:=by
 unfold Bytes.checkResize
 refine wpAny_bind (m:=orM _ _) ?_
 refine wpAny_bind (Zdh ?_)
 refine wpAny_bind (wpAny_bind (wpAny_load h (wpAny_pure ?_)))
 exact wpAny_pure (wpAny_pure q)
theorem Zdi {a:Addr} {b:Array UInt8} {f:Array UInt8 → Array UInt8} {Q:Unit → Shared → Prop} (h:s.heap.get? a = some (baObj b)) (hz:(f b).size ≤ 1000000)
  (q:∀ h',Heap.SameBut a s.heap h' → h'.get? a = some (baObj (f b)) → Q () { s with heap:=h' }):wpAny (model prog w) A (Bytes.write (.ref a) f) Q E s:=by
 show wpAny _ _ (updateBytearray a f) _ _ _
 unfold updateBytearray
 refine wpAny_bind (wpAny_load h ?_)
 show wpAny _ _ (update a (Obj.mapBytearray f) >>= fun _ => lookBehind a) _ _ _
 have h₂:(s.heap.update a (Obj.mapBytearray f)).get? a = some (baObj (f b)):=Heap.get?_update_self (Obj.mapBytearray f) h rfl
 refine wpAny_bind (up (PySem.wpAny_update h ?_))
 refine up (PySem.wpAny_lookBehind h₂ ?_ (q _ (Heap.SameBut.update ..) h₂))
 show (if (f b).size > sizeLine then some "bytearray:memory" else none) = none
 rw [if_neg]
 rw [sizeLine_eq]
 omega
theorem Zg5 {a:Addr} {b:Array UInt8} {Q:Array UInt8 → Shared → Prop} (h:s.heap.get? a = some (baObj b)) (q:Q b s):wpAny (model prog w) A (Bytes.payload (.ref a)) Q E s:=by
 unfold Bytes.payload Bytes.payload?
 exact wpAny_bind (wpAny_bind (wpAny_load h (wpAny_pure (wpAny_pure q))))
theorem Zge:Slot "bytearray" "append" "bytearray.append" :=
 .of (owner:="bytearray") (n:="append") (by rw [typeLookup_type,builtinLookup_eq_fast];kernel_rfl) (by decide +kernel) (by decide +kernel) (by decide +kernel)
  (by first | exact .inl (by decide +kernel) | exact .inr (by decide +kernel)) (by rw [isSubtype_type];kernel_rfl)
theorem ZfH:entryFor table "bytearray.append" = some Builtin.«bytearray.append»:=entryFor_of_tree (by kernel_rfl)
theorem Zgf (a b:Value):argsOk "bytearray.append" ⟨[a,b],[]⟩:=by unfold argsOk;kernel_rfl
theorem Zgg:Slot "bytearray" "extend" "bytearray.extend" :=
 .of (owner:="bytearray") (n:="extend") (by rw [typeLookup_type,builtinLookup_eq_fast];kernel_rfl) (by decide +kernel) (by decide +kernel) (by decide +kernel)
  (by first | exact .inl (by decide +kernel) | exact .inr (by decide +kernel)) (by rw [isSubtype_type];kernel_rfl)
theorem ZfI:entryFor table "bytearray.extend" = some Builtin.«bytearray.extend»:=entryFor_of_tree (by kernel_rfl)
theorem Zgh (a b:Value):argsOk "bytearray.extend" ⟨[a,b],[]⟩:=by unfold argsOk;kernel_rfl
theorem Zln {a:Addr} {b:Array UInt8} {k:Int} {t:Tok} {Q:Value → Shared → Prop} (h:s.heap.get? a = some (baObj b)) (h0:0 ≤ k) (h1:k < 256) (hz:b.size < 1000000)
  (q:∀ h',Heap.SameBut a s.heap h' → h'.get? a = some (baObj (b.push k.toNat.toUInt8)) → Q .none { s with heap:=h' }):wpAny (model prog w) A (call (.builtin "bytearray.append") [.ref a,.int k t]) Q E s:=by
 refine Zhy Zge ⟨_,h,rfl⟩ (by decide +kernel) ZfH (Zgf _ _) ?_
 show wpAny _ _ (Bytes.byteValue (.int k t) >>= fun c => Bytes.checkResize (.ref a) >>= fun _ => Bytes.write (.ref a) (·.push c) >>= fun _ => ret .none) _ _ _
 refine wpAny_bind ?_
 unfold Bytes.byteValue
 have e1:asIndex (.int k t) = pure k:=by first | rfl | kernel_rfl
 refine wpAny_bind (wpAny_of_eq e1 ?_)
 refine Zbu (by simp;omega) ?_
 refine wpAny_pure ?_
 refine wpAny_bind (Zcf h ?_)
 refine wpAny_bind (Zdi h (by rw [Array.size_push];omega) fun h' hs hh => ?_)
 exact wpAny_pure ⟨_,rfl,q h' hs hh⟩
end
end Mine
end
section
open PySem.Sem (wp)
namespace Mine
open Builtin
section
variable {prog:Program} {w:World} {A:Around} {E:Value → Shared → Prop} {s:Shared}
theorem Zp1 {α:Type} {M:Model} {A:Around} {Q:α → Shared → Prop} {E:Value → Shared → Prop} {s:Shared} {c:Bool} {a b:Sem α} (hc:c = true) (h:wpAny M A a Q E s):wpAny M A (if c = true then a else b) Q E s:=by subst hc;exact h
theorem Zoo {b:Array UInt8} {t:Tok} {id:String}:Bytes.takeBufferQuiet? id (.bytes b t) 0 = pure (some (b,none)):=by
 unfold Bytes.takeBufferQuiet? Bytes.takeBuffer?
 rw [KBy.special_eq KBy.look_buffer,KBy.own_buffer]
 simp only [pure_bind,Bool.not_true,Bool.false_eq_true,if_false]
 have e:Bytes.buffer? id (.bytes b t) (full:=0 == Bytes.fullReadOnly) = pure (some b):=by
  unfold Bytes.buffer?
  rw [KBy.special_eq KBy.look_buffer,KBy.own_buffer,KBy.own_release]
  kernel_rfl
 rw [e]
 rfl
theorem Zlo {a:Addr} {b c:Array UInt8} {t:Tok} {Q:Value → Shared → Prop} (h:s.heap.get? a = some (baObj b)) (hz:b.size + c.size < 1000000)
  (q:∀ h',Heap.SameBut a s.heap h' → h'.get? a = some (baObj (b ++ c)) → Q .none { s with heap:=h' }):wpAny (model prog w) A (call (.builtin "bytearray.extend") [.ref a,.bytes c t]) Q E s:=by
 refine Zhy Zgg ⟨_,h,rfl⟩ (by decide +kernel) ZfI (Zgh _ _) ?_
 unfold Builtin.«bytearray.extend»
 refine wpAny_bind (m:=selfAndOne _ _) (wpAny_of_eq (a:=(.ref a,.bytes c t)) (by kernel_rfl) ?_)
 refine wpAny_bind (m:=specialOf _ _) (wpAny_of_eq (KBy.special_eq KBy.look_buffer) ?_)
 dsimp only
 refine wpAny_bind (wpAny_rule ?_)
 refine wpAny_bind (Zg5 h ?_)
 refine wpAny_bind (wpAny_of_eq Zoo ?_)
 dsimp only
 refine Zp1 rfl ?_
 show wpAny _ _ (do
  if !c.isEmpty then Bytes.checkResize (.ref a)
  Bytes.write (.ref a) (· ++ c)
  ret .none) _ _ _
 have fin:wpAny (model prog w) A.in1 (Bytes.write (.ref a) (· ++ c) >>= fun _ => ret .none) (fun fin s' => ∃ v,fin = Fin.done (Flow.ret v) ∧ Q v s') E s :=
  wpAny_bind (Zdi h (by rw [Array.size_append];omega) fun h' hs hh => wpAny_pure ⟨_,rfl,q h' hs hh⟩)
 cases c.isEmpty with
 | true => exact fin
 | false => exact wpAny_bind (Zcf h fin)
theorem ba_look_release:typeLookup (.type "bytearray") "__release_buffer__" = pure (some (.builtin "bytearray.__release_buffer__")):=by rw [typeLookup_type,builtinLookup_eq_fast];kernel_rfl
theorem Zp2 {a:Addr} {b:Array UInt8} {Q:Bool → Shared → Prop} (h:s.heap.get? a = some (baObj b)) (q:Q false s):wpAny (model prog w) A (Bytes.ownRelease (.ref a)) Q E s:=by
 have hT:s.TypeIs (.ref a) "bytearray":=⟨_,h,rfl⟩
 unfold Bytes.ownRelease Bytes.slotIsOwn
 refine wpAny_bind (wpAny_bind (up (PySem.wpAny_specialOf hT ba_look_release ?_)))
 dsimp only
 refine Zbu (by decide +kernel) ?_
 refine up (PySem.wpAny_isInstance (b:=true) hT ?_ ?_)
 ·rw [show "bytearray.__release_buffer__".dropRight ("__release_buffer__".length + 1) = "bytearray" by decide +kernel]
  exact ba_sub
 ·exact wpAny_pure q
theorem Zop {a:Addr} {Q:Unit → Shared → Prop} (h:s.heap.get? a = some (baObj #[]))
  (q:∀ h',Heap.SameBut a s.heap h' → h'.get? a = some (baObj #[]) → Q () { s with heap:=h' }):wpAny (model prog w) A (Builtin.«bytearray.__init__» ⟨[.ref a],[]⟩) (fun fin s' => fin = .done (.ret .none) ∧ Q () s') E s:=by
 unfold Builtin.«bytearray.__init__»
 refine wpAny_bind (m:=Bytes.ownRelease _) (Zp2 h ?_)
 refine Zbu rfl ?_
 refine wpAny_bind (m:=Bytes.bindOptional _ _ _ _ _) (wpAny_of_eq (a:=[none,none,none]) (by kernel_rfl) ?_)
 dsimp only
 refine wpAny_bind (m:=Bytes.checkCodecArg _ _ _ _) (wpAny_of_eq (a:=()) rfl ?_)
 refine wpAny_bind (m:=Bytes.checkCodecArg _ _ _ _) (wpAny_of_eq (a:=()) rfl ?_)
 refine wpAny_bind (m:=orM _ _) ?_
 refine wpAny_bind (Zdh ?_)
 refine wpAny_bind (wpAny_bind (wpAny_load h (wpAny_pure ?_)))
 refine wpAny_pure ?_
 refine Zbu rfl ?_
 refine wpAny_bind (Zdi h (by simp) fun h' hs hh => ?_)
 exact wpAny_bind (wpAny_of_eq (a:=()) rfl (wpAny_pure ⟨rfl,q h' hs hh⟩))
end
end Mine
end
section
open PySem.Sem (wp)
namespace Mine
open Builtin
section
variable {prog:Program} {w:World} {A:Around} {E:Value → Shared → Prop} {s:Shared}
theorem ZmN {Q:Value → Shared → Prop} (q:∀ h',(∀ b o,s.heap.get? b = some o → h'.get? b = some o) → h'.get? s.heap.objs.size = some (baObj #[]) → Q (.ref s.heap.objs.size) { s with heap:=h' }) :
  wpAny (model prog w) A (call (.type "bytearray") []) Q E s:=by
 obtain ⟨c,tl,hmro⟩:=ba_called.mro
 refine wpAny_call (codeAny_of_tree rfl ?_)
 show wpAny _ _ (callAny (.type "bytearray") _) _ _ _
 refine wpAny_pure ⟨Code.quiet_builtin _ (by decide +kernel),codeAny_builtin ZjV PySem.F.entry_type_call ?_⟩
 rw [Around.under_plain (weight_type_call_type "bytearray" [] []) rfl]
 have h1:=ba_called.notType
 have h2:=ba_called.canCreate
 unfold Builtin.«type.__call__»
 dsimp only
 refine Zbu h1 ?_
 refine Zbu h2 ?_
 refine wpAny_bind (wpAny_of_eq ZiS ?_)
 refine wpAny_bind (wpAny_of_eq hmro ?_)
 refine Zbu rfl ?_
 refine wpAny_bind (wpAny_of_eq ba_called.made ?_)
 dsimp only
 refine wpAny_bind (wpAny_pure ?_)
 refine wpAny_bind (wpAny_holding (wpAny_call (upc (PySem.codeAny_mono (Zp0 (E:=E) (Q₁:=fun obj s₁ => obj = .ref s.heap.objs.size ∧ s₁ = { s with heap:=s.heap.push { cls:=.type "bytearray",data:=.bytearray #[] } }) ⟨rfl,rfl⟩) fun r s₁ hr => ?_))))
 rcases r with e | (obj | _ | _ | _) <;> first | exact hr | exact hr.elim | skip
 obtain ⟨rfl,rfl⟩:=hr
 have hS:(s.heap.push (baObj #[])).get? s.heap.objs.size = some (baObj #[]):=Heap.get?_push_size _ rfl
 have hT:({ s with heap:=s.heap.push (baObj #[]) }:Shared).TypeIs (.ref s.heap.objs.size) "bytearray":=⟨_,hS,rfl⟩
 dsimp only
 refine wpAny_bind (up (PySem.wpAny_isInstance (b:=true) hT ba_sub ?_))
 refine Zbu rfl ?_
 refine wpAny_bind (wpAny_holding ?_)
 unfold callSpecial?
 refine wpAny_bind (up (PySem.wpAny_specialOf hT ba_slot_init.lookup ?_))
 dsimp only
 refine wpAny_holding (wpAny_bind (wpAny_of_eq (ba_slot_init.bind _) ?_))
 dsimp only
 refine wpAny_bind (wpAny_call (ZO (by decide +kernel) (plainId_quiet ba_slot_init.plain _) Zg4 ?_))
 rw [Around.under_plainId ba_slot_init.plain _]
 refine up (ba_slot_init.check _ _ _ _ _ _ _ _ hT (Zh4 _) (wpAny_mono (Zop (Q:=fun _ s' => wpAny (model prog w) A.in1 (ret (Value.ref s.heap.objs.size)) (fun fin s' => fin = .done (.ret (.ref s.heap.objs.size)) ∧ Q (.ref s.heap.objs.size) s') E s') hS fun h' hs hh => ?_) (fun fin s' h' => ?_) fun _ _ x => x))
 ·refine wpAny_pure ⟨rfl,q h' (fun b o e => ?_) hh⟩
  exact (hs.2 b (Nat.ne_of_lt (Heap.lt_size e))).trans (Heap.get?_push_of_some _ e)
 ·obtain ⟨rfl,h'⟩:=h'
  dsimp only
  refine wpAny_pure ?_
  dsimp only
  refine Zbu rfl (wpAny_mono h' (fun fin s₂ h₂ => ?_) fun _ _ x => x)
  obtain ⟨rfl,h₂⟩:=h₂
  exact h₂
end
end Mine
end
section
open PySem.Sem (wp)
namespace MineL
open Builtin
theorem slot_len:Slot "bytearray" "__len__" "bytearray.__len__" :=
 .of (owner:="bytearray") (n:="__len__") (by rw [typeLookup_type,builtinLookup_eq_fast];kernel_rfl) (by decide +kernel) (by decide +kernel) (by decide +kernel)
  (by first | exact .inl (by decide +kernel) | exact .inr (by decide +kernel)) (by rw [isSubtype_type];kernel_rfl)
theorem entry_len:entryFor table "bytearray.__len__" = some Builtin.«bytearray.__len__»:=entryFor_of_tree (by kernel_rfl)
theorem args_len (a:Value):argsOk "bytearray.__len__" ⟨[a],[]⟩:=by unfold argsOk;kernel_rfl
theorem slot_item:Slot "bytearray" "__getitem__" "bytearray.__getitem__" :=
 .of (owner:="bytearray") (n:="__getitem__") (by rw [typeLookup_type,builtinLookup_eq_fast];kernel_rfl) (by decide +kernel) (by decide +kernel) (by decide +kernel)
  (by first | exact .inl (by decide +kernel) | exact .inr (by decide +kernel)) (by rw [isSubtype_type];kernel_rfl)
theorem entry_item:entryFor table "bytearray.__getitem__" = some Builtin.«bytearray.__getitem__»:=entryFor_of_tree (by kernel_rfl)
theorem args_item (a b:Value):argsOk "bytearray.__getitem__" ⟨[a,b],[]⟩:=by unfold argsOk;kernel_rfl
theorem no_bytes:typeLookup (.type "bytearray") "__bytes__" = pure none:=by rw [typeLookup_type,builtinLookup_eq_fast];kernel_rfl
theorem no_idx:typeLookup (.type "bytearray") "__index__" = pure none:=by rw [typeLookup_type,builtinLookup_eq_fast];kernel_rfl
theorem look_buffer:typeLookup (.type "bytearray") "__buffer__" = pure (some (.builtin "bytearray.__buffer__")):=by rw [typeLookup_type,builtinLookup_eq_fast];kernel_rfl
section
variable {prog:Program} {w:World} {A:Around} {E:Value → Shared → Prop} {s:Shared} {a:Addr} {b:Array UInt8}
theorem payload_ba {Q:Array UInt8 → Shared → Prop} (h:s.heap.get? a = some (Mine.baObj b)) (q:Q b s):wpAny (model prog w) A (Bytes.payload (.ref a)) Q E s:=by
 unfold Bytes.payload Bytes.payload?
 exact wpAny_bind (wpAny_bind (wpAny_load h (wpAny_pure (wpAny_pure q))))
theorem len_ba {Q:Value → Shared → Prop} (h:s.heap.get? a = some (Mine.baObj b)) (hz:b.size ≤ 1000000) (q:Q (.int b.size (s.toks + 1)) { s with toks:=s.toks + 1 + 1 }):wpAny (model prog w) A (call (.builtin "len") [.ref a]) Q E s:=by
 have hT:s.TypeIs (.ref a) "bytearray":=⟨_,h,rfl⟩
 refine Calls.call_function_entry PySem.kind_len PySem.plain_len PySem.entry_len (PySem.args_len1 _) ?_
 unfold Builtin.«len»
 refine wpAny_bind (m:=oneArg "len" _) (wpAny_pure ?_)
 refine wpAny_bind (m:=callSpecial? (.ref a) (Str.ofString "__len__")) (wpAny_callSpecial?_slot (name:=Str.ofString "__len__") hT slot_len
  (wpAny_call_entry slot_len hT entry_len ?_ (args_len _)))
 ·show wpAny _ _ (do retInt (← Bytes.payload (.ref a)).size) _ _ s
  refine wpAny_bind (payload_ba h ?_)
  refine wpAny_bind (wpAny_mkInt (wpAny_pure ⟨_,rfl,?_⟩))
  refine wpAny_bind (wpAny_holding (wpAny_pure ?_))
  refine wpAny_bind (wpAny_letGo ?_)
  show wpAny _ _ (if ((b.size:Nat):Int) < 0 then _ else _) _ _ _
  rw [if_neg (by omega)]
  show wpAny _ _ (if ((b.size:Nat):Int) ≥ 2 ^ 63 then _ else _) _ _ _
  rw [if_neg (by omega)]
  exact wpAny_bind (wpAny_mkInt (wpAny_pure ⟨_,rfl,q⟩))
theorem own_release {Q:Bool → Shared → Prop} (h:s.heap.get? a = some (Mine.baObj b)) (q:Q false s):wpAny (model prog w) A (Bytes.ownRelease (.ref a)) Q E s:=by
 have hT:s.TypeIs (.ref a) "bytearray":=⟨_,h,rfl⟩
 unfold Bytes.ownRelease Bytes.slotIsOwn
 refine wpAny_bind (wpAny_bind (wpAny_specialOf hT Mine.ba_look_release ?_))
 dsimp only
 refine bm_if_false (by decide +kernel) ?_
 refine wpAny_isInstance (b:=true) hT ?_ ?_
 ·rw [show "bytearray.__release_buffer__".dropRight ("__release_buffer__".length + 1) = "bytearray" by decide +kernel]
  exact Mine.ba_sub
 ·exact wpAny_pure q
theorem own_buffer {Q:Bool → Shared → Prop} (h:s.heap.get? a = some (Mine.baObj b)) (q:Q true s):wpAny (model prog w) A (Bytes.slotIsOwn (.ref a) "__buffer__") Q E s:=by
 have hT:s.TypeIs (.ref a) "bytearray":=⟨_,h,rfl⟩
 unfold Bytes.slotIsOwn
 refine wpAny_bind (wpAny_specialOf hT look_buffer ?_)
 dsimp only
 refine bm_if_false (by decide +kernel) ?_
 refine wpAny_isInstance (b:=true) hT ?_ q
 rw [show "bytearray.__buffer__".dropRight ("__buffer__".length + 1) = "bytearray" by decide +kernel]
 exact Mine.ba_sub
theorem buffer_ba {id:String} {full:Bool} {Q:Option (Array UInt8) → Shared → Prop} (h:s.heap.get? a = some (Mine.baObj b)) (q:Q (some b) s):wpAny (model prog w) A (Bytes.buffer? id (.ref a) full) Q E s:=by
 have hT:s.TypeIs (.ref a) "bytearray":=⟨_,h,rfl⟩
 unfold Bytes.buffer?
 refine wpAny_bind (wpAny_specialOf hT look_buffer ?_)
 refine wpAny_bind (own_buffer h ?_)
 refine bm_if_false rfl ?_
 refine wpAny_bind (wpAny_specialOf hT look_buffer ?_)
 refine wpAny_bind (own_release h ?_)
 refine bm_if_false rfl ?_
 exact wpAny_bind (payload_ba h (wpAny_pure q))
theorem new_ba {Q:Value → Shared → Prop} (h:s.heap.get? a = some (Mine.baObj b)) (hz:b.size ≤ 1000000) (q:Q (.bytes b s.toks) { s with toks:=s.toks + 1 }) :
  codeAny (model prog w) A (.call (.builtin "bytes.__new__") ⟨[.type "bytes",.ref a],[]⟩) (wants Q E) s:=by
 refine codeAny_of_tree ?_
 show wpAny _ A.in1 (do checkBuiltinCall "bytes.__new__" ⟨[.type "bytes",.ref a],[]⟩;again (.builtin "bytes.__new__" ⟨[.type "bytes",.ref a],[]⟩)) _ _ s
 refine wpAny_bind (wpAny_of_eq (PySem.F.bm_newCall _) (wpAny_pure ⟨plainId_quiet PySem.F.bm_plain _,codeAny_builtin PySem.F.bm_entry ?_⟩))
 rw [Around.under_plainId PySem.F.bm_plain _]
 have hT:s.TypeIs (.ref a) "bytearray":=⟨_,h,rfl⟩
 unfold Builtin.«bytes.__new__»
 refine wpAny_bind (wpAny_of_eq (a:=true) rfl ?_)
 refine bm_if_false rfl ?_
 refine wpAny_bind (wpAny_of_eq PySem.F.bm_sub ?_)
 refine bm_if_false rfl ?_
 refine wpAny_bind (wpAny_of_eq (PySem.F.bm_bind _) ?_)
 refine wpAny_bind (wpAny_of_eq (a:=()) rfl ?_)
 refine wpAny_bind (wpAny_of_eq (a:=()) rfl ?_)
 refine bm_if_false rfl ?_
 refine wpAny_bind (wpAny_specialOf hT no_bytes ?_)
 refine wpAny_bind (wpAny_bind ?_)
 show wpAny _ _ (load a >>= _) _ _ _
 refine wpAny_bind (wpAny_load h ?_)
 refine wpAny_pure (wpAny_pure ?_)
 refine bm_if_false rfl ?_
 refine wpAny_bind (wpAny_specialOf hT no_idx ?_)
 refine bm_if_true rfl ?_
 refine wpAny_bind (buffer_ba h ?_)
 dsimp only
 refine wpAny_bind (wpAny_rule ?_)
 refine wpAny_bind (wpAny_mkBytes ?_ (by rw [sizeLine_eq];omega))
 show wpAny _ _ (if (Value.type "bytes" == Value.type "bytes") = true then _ else _) _ _ _
 refine bm_if_true (by decide) ?_
 exact wpAny_pure q
theorem bytes_ba {Q:Value → Shared → Prop} (h:s.heap.get? a = some (Mine.baObj b)) (hz:b.size ≤ 1000000) (q:Q (.bytes b s.toks) { s with toks:=s.toks + 1 }):wpAny (model prog w) A (call (.type "bytes") [.ref a]) Q E s:=by
 refine callType_codes (Q₁:=fun obj s₁ => s₁.TypeIs obj "bytes" ∧ Q obj s₁) PySem.F.bm_called (PySem.F.bm_typeCall _) PySem.F.entry_object_init
  (new_ba h hz ⟨PySem.W.typeIs_bytes _ _ _,q⟩) fun obj s₁ h₁ => ?_
 exact ⟨h₁.1,PySem.F.args_object_init_2 obj _,object_init_meets PySem.F.bm_called.init.lookup PySem.F.bm_called.made (by decide) prog w A.in1 _ s₁ ⟨h₁.1,rfl,h₁.2⟩⟩
theorem slice_ba {sl:Addr} {l u:Value} {lo hi:Option Int} {Q:Value → Shared → Prop} (h:s.heap.get? a = some (Mine.baObj b)) (hs:s.heap.IsSliceOf sl l u .none) (hl:IsPart l lo) (hu:IsPart u hi) (hz:b.size ≤ 1000000)
  (q:Q (.ref s.heap.objs.size) { s with heap:=s.heap.push (Mine.baObj (KBy.picked b lo hi)) }):wpAny (model prog w) A (getItem (.ref a) (.ref sl)) Q E s:=by
 have hTa:s.TypeIs (.ref a) "bytearray":=⟨_,h,rfl⟩
 refine wpAny_getItem_slot hTa (by decide) slot_item (wpAny_call_entry slot_item hTa entry_item ?_ (args_item _ _))
 obtain ⟨o,ho,hc,hd⟩:=hs
 have hT:s.TypeIs (.ref sl) "slice":=⟨o,ho,hc⟩
 show wpAny _ _ (Bytes.subscript? (.ref sl) >>= fun r => _) _ _ s
 refine wpAny_bind ?_
 unfold Bytes.subscript?
 refine wpAny_bind (wpAny_specialOf hT slice_no_index (wpAny_pure ?_))
 refine wpAny_bind (wpAny_typeOf hT ?_)
 show wpAny _ _ (Bytes.sliceParts (.ref sl) >>= fun r => _) _ _ s
 refine wpAny_bind ?_
 unfold Bytes.sliceParts
 refine wpAny_bind (wpAny_field (x:=.none) ho hd rfl ?_)
 kby_none
 refine wpAny_ite (KBy.ite_no (show ¬ ((Value.none == rawInt 0) = true) from Bool.false_ne_true) ?_)
 refine wpAny_bind (wpAny_field (x:=l) ho hd rfl ?_)
 have go:wpAny (model prog w) A.in1 (sliceIndices (rawPart lo) (rawPart hi) (rawPart none) b.size) (fun r s' => r = sliceBounds lo hi none b.size ∧ s' = s) (fun _ _ => False) s :=
  wpAny_of_eq (sliceIndices_raw lo hi none b.size (fun e => nomatch e)) ⟨rfl,rfl⟩
 have hsz:(KBy.picked b lo hi).size ≤ sizeLine:=Nat.le_trans (KBc.size_picked_le b lo hi) (by rw [sizeLine_eq];omega)
 cases hl <;> cases hu <;> (first
  | (kby_none;(refine wpAny_bind (wpAny_field (x:=.none) ho hd rfl ?_));kby_none)
  | (kby_none;(refine wpAny_bind (wpAny_field (x:=.int _ _) ho hd rfl ?_));kby_int)
  | (kby_int;(refine wpAny_bind (wpAny_field (x:=.none) ho hd rfl ?_));kby_none)
  | (kby_int;(refine wpAny_bind (wpAny_field (x:=.int _ _) ho hd rfl ?_));kby_int)) <;> refine wpAny_pure ?_
 all_goals
  refine wpAny_bind (payload_ba h ?_)
  refine wpAny_bind (wpAny_mono go (fun r s' hr => ?_) fun _ _ e => e.elim)
  obtain ⟨hr1,hr2⟩:=hr
  subst hr1 hr2
  exact wpAny_bind (wpAny_newObj_type (wpAny_pure ⟨_,rfl,q⟩) hsz)
end
end MineL
end
namespace Mine
section
variable {d k:Nat} {σ:List AO} {ks ls:List Int} {a:Int}
theorem St.barrAt {h₀ L N ρ ι P h} (S:St h₀ L N ρ ι P σ h) (hk:σ[k]? = some (.barr ks)) {x:Value} (r:VR ι P (.ref k) x):∃ a d b,x = .ref a ∧ ι[k]? = some (a,d) ∧ d = a ∧ h.get? a = some (baObj b) ∧ KBw.bInts b = ks:=by
 obtain ⟨a,dd,rfl,e⟩:=r.ref'
 obtain ⟨e0,b,e1,e2⟩:=S.objs _ _ _ _ hk e
 exact ⟨a,dd,b,rfl,e,e0,e1,e2⟩
theorem ZdE:OpV d (Fn (.type "bytearray")) [] σ (.ref σ.length) (σ ++ [.barr []]):=by
 intro c ι P s xs R S hx Q kQ
 obtain rfl:=hx.inv0
 refine ZmN fun h' hk' e1 => ?_
 have pr:ι <+: ι ++ [(s.heap.objs.size,s.heap.objs.size)]:=List.prefix_append _ _
 exact kQ _ P h' s.toks pr (.refl _) (S.addAt (S.ext hk') (Nat.le_refl _) ⟨rfl,#[],e1,rfl⟩) _ (.ref (d:=s.heap.objs.size) S.last)
theorem Zlp {b:Array UInt8} (h0:0 ≤ a) (h1:a < 256):KBw.bInts (b.push a.toNat.toUInt8) = KBw.bInts b ++ [a]:=by
 unfold KBw.bInts
 rw [Array.toList_push,List.map_append]
 congr 1
 show [((a.toNat.toUInt8.toNat:Nat):Int)] = [a]
 rw [UInt8.toNat_ofNat']
 congr 1
 omega
theorem ZeA (hk:σ[k]? = some (.barr ks)) (h0:0 ≤ a) (h1:a < 256) (hz:ks.length < 1000000):OpV d (Fn (.builtin "bytearray.append")) [.ref k,.int a] σ .none (σ.set k (.barr (ks ++ [a]))):=.two fun c ι P s x y R S r1 r2 Q kQ => by
 obtain ⟨q,dd,b,rfl,e,rfl,e1,rfl⟩:=S.barrAt hk r1
 obtain ⟨u,rfl⟩:=r2.int'
 rw [KBw.ints_length] at hz
 refine Zln e1 h0 h1 hz fun h' hs hh => ?_
 exact kQ ι P h' s.toks (List.prefix_refl _) (.refl _) (S.change e (fun b o hb _ eb => (hs.2 b hb).trans eb) ⟨rfl,_,hh,Zlp h0 h1⟩) _ .none
theorem Zh5 (hk:σ[k]? = some (.barr ks)) (hz:ks.length + ls.length < 1000000):OpV d (Fn (.builtin "bytearray.extend")) [.ref k,.bytes ls] σ .none (σ.set k (.barr (ks ++ ls))):=.two fun c ι P s x y R S r1 r2 Q kQ => by
 obtain ⟨q,dd,b,rfl,e,rfl,e1,rfl⟩:=S.barrAt hk r1
 obtain ⟨b',u,rfl,rfl⟩:=r2.bytes'
 rw [KBw.ints_length,KBw.ints_length] at hz
 refine Zlo e1 hz fun h' hs hh => ?_
 exact kQ ι P h' s.toks (List.prefix_refl _) (.refl _) (S.change e (fun b o hb _ eb => (hs.2 b hb).trans eb) ⟨rfl,_,hh,KBw.ints_app rfl rfl⟩) _ .none
theorem Zhz (hk:σ[k]? = some (.barr ks)) (hz:ks.length ≤ 1000000):OpV d (Fn (.builtin "len")) [.ref k] σ (.int ks.length) σ:=.one fun c ι P s x R S r1 Q kQ => by
 obtain ⟨q,dd,b,rfl,e,rfl,e1,rfl⟩:=S.barrAt hk r1
 rw [KBw.ints_length] at hz
 refine up (MineL.len_ba e1 hz ?_)
 rw [← KBw.ints_length b]
 exact Ze S kQ (s.toks + 2) _ .int
theorem Zfx (hk:σ[k]? = some (.barr ks)) (hz:ks.length ≤ 1000000):OpV d (Fn (.type "bytes")) [.ref k] σ (.bytes ks) σ:=.one fun c ι P s x R S r1 Q kQ => by
 obtain ⟨q,dd,b,rfl,e,rfl,e1,rfl⟩:=S.barrAt hk r1
 rw [KBw.ints_length] at hz
 exact up (MineL.bytes_ba e1 hz (Ze S kQ (s.toks + 1) _ (.bytes rfl)))
theorem ZjW:typeLookup (.type "bytearray") "__getitem__" = pure (some (.builtin "bytearray.__getitem__")):=MineL.slot_item.lookup
theorem Zlq {l u:V} {lo hi:Option Int} (hk:σ[k]? = some (.barr ks)) (hl:EndV l lo) (hu:EndV u hi) (hz:ks.length ≤ 1000000):OpS d (.ref k) l u σ (.ref σ.length) (σ ++ [.barr (ZbM ks lo hi)]):=by
 intro c ι P s x y z R S r1 r2 r3 Q kQ
 obtain ⟨q,dd,b,rfl,e,rfl,e1,rfl⟩:=S.barrAt hk r1
 rw [KBw.ints_length] at hz
 rw [← Zd9]
 have S1:=S.push { cls:=.type "slice",data:=.fields #[y,z,.none] }
 have e1':=Heap.get?_push_of_some ({ cls:=.type "slice",data:=.fields #[y,z,.none] }:Obj) e1
 refine up (subscriptTail_ops (s:={ s with heap:=s.heap.push { cls:=.type "slice",data:=.fields #[y,z,.none] } }) (ops:=[.ref s.heap.objs.size,.ref dd]) (⟨_,e1',rfl⟩:Shared.TypeIs _ (.ref dd) "bytearray") ZjW
  (MineL.slice_ba e1' (Heap.IsSliceOf.new ..) (hl.part r2) (hu.part r3) hz ?_) (by with_unfolding_all rfl) (by intro _;with_unfolding_all rfl))
 have S2:=S1.alloc (o:=baObj (KBy.picked b lo hi)) (ao:=.barr (ZbM (KBw.bInts b) lo hi)) ⟨rfl,_,Heap.get?_push_size _ rfl,KBc.ints_picked rfl lo hi⟩
 rw [Heap.size_push] at S2
 show Q (.ref (s.heap.push _).objs.size) _
 rw [Heap.size_push]
 exact kQ _ P _ s.toks (List.prefix_append _ _) (.refl _) S2 _ (.ref (d:=s.heap.objs.size + 1) S.last)
end
inductive Out where
 | next (ρ:List (Option V)) | ret (v:V) | brk (ρ:List (Option V))
noncomputable def Out.env:Out → List (Option V)
 | .next ρ => ρ
 | .ret _ => []
 | .brk ρ => ρ
inductive FR (ι:Ix) (P:Z2):Out → Flow → Prop
 | next {ρ}:FR ι P (.next ρ) .next
 | ret {v x}:VR ι P v x → FR ι P (.ret v) (.ret x)
 | brk {ρ}:FR ι P (.brk ρ) .brk
theorem FR.mono {ι ι' P P' o f} (hi:ι <+: ι') (hP:FrzLe P P'):FR ι P o f → FR ι' P' o f
 | .next => .next
 | .ret h => .ret (h.mono hi hP)
 | .brk => .brk
noncomputable def FRI (ι:Ix) (P:Z2):Out → Flow → Prop
 | .next _,f => f = .next
 | .ret v,f => ∃ x,f = .ret x ∧ VR ι P v x
 | .brk _,f => f = .brk
theorem FR.inv {ι P o f} (h:FR ι P o f):FRI ι P o f:=by
 cases h with
 | next => rfl
 | ret h => exact ⟨_,rfl,h⟩
 | brk => rfl
theorem FR.next' {ι P ρ f} (h:FR ι P (.next ρ) f):f = .next:=h.inv
theorem FR.ret' {ι P v f} (h:FR ι P (.ret v) f):∃ x,f = .ret x ∧ VR ι P v x:=h.inv
theorem FR.brk' {ι P ρ f} (h:FR ι P (.brk ρ) f):f = .brk:=h.inv
structure Cf where
 w:World
 h₀:Heap
 A:Around
 L:Addr
 N:List Str
 E:Value → Shared → Prop
noncomputable abbrev cf (w:World) (h₀:Heap) (A:Around) (env:Env) (sc:Scope) (E:Value → Shared → Prop):Cf:=⟨w,h₀,A,env.locals,Zs sc,E⟩
noncomputable abbrev Aff (c:Cf) (ρ:List (Option V)) (ι:Ix) (P:Z2) (σ':List AO) (s:Shared) (R:Ix → Z2 → Shared → Prop):Prop :=
 ∀ ι' P' h' tk,ι <+: ι' → FrzLe P P' → St c.h₀ c.L c.N ρ ι' P' σ' h' → R ι' P' { s with heap:=h',toks:=tk }
theorem Aff.up {c:Cf} {ρ ι ι₁ P P₁ σ' s R g t} (k:Aff c ρ ι P σ' s R) (i:ι <+: ι₁) (p:FrzLe P P₁):Aff c ρ ι₁ P₁ σ' { s with heap:=g,toks:=t } R :=
 fun ι' P' h' tk i' p' S => k ι' P' h' tk (i.trans i') (p.trans p') S
noncomputable def Zpu (c:Cf) (t:Sem Flow) (ι:Ix) (P:Z2) (o:Out) (σ':List AO) (s:Shared):Prop :=
 ∀ Q:Flow → Shared → Prop,Aff c o.env ι P σ' s (fun ι' P' s' => ∀ f,FR ι' P' o f → Q f s') → wpAny (model pw c.w) c.A t Q c.E s
noncomputable def Zpv (c:Cf) (t:Sem Unit) (ι:Ix) (P:Z2) (ρ:List (Option V)) (σ':List AO) (s:Shared):Prop :=
 ∀ Q:Unit → Shared → Prop,Aff c ρ ι P σ' s (fun _ _ s' => Q () s') → wpAny (model pw c.w) c.A t Q c.E s
noncomputable def TS (sc:Scope) (d:Nat) (m:MS) (ρ:List (Option V)) (σ:List AO) (o:Out) (σ':List AO):Prop :=
 ∀ w h₀ A env pe ι P s E,Fx w h₀ A env sc d → CS sc pe m → St h₀ env.locals (Zs sc) ρ ι P σ s.heap → Zpu (cf w h₀ A env sc E) (exec pe env) ι P o σ' s
noncomputable def TSs (sc:Scope) (d:Nat) (m:List MS) (ρ:List (Option V)) (σ:List AO) (o:Out) (σ':List AO):Prop :=
 ∀ w h₀ A env pe ι P s E,Fx w h₀ A env sc d → CSs sc pe m → St h₀ env.locals (Zs sc) ρ ι P σ s.heap → Zpu (cf w h₀ A env sc E) (execs pe env) ι P o σ' s
noncomputable def TA (sc:Scope) (d:Nat) (m:MT) (v:V) (ρ:List (Option V)) (σ:List AO) (ρ':List (Option V)) (σ':List AO):Prop :=
 ∀ w h₀ A env pe ι P s E x,Fx w h₀ A env sc d → CT sc pe m → St h₀ env.locals (Zs sc) ρ ι P σ s.heap → VR ι P v x → Zpv (cf w h₀ A env sc E) (assign pe env x) ι P ρ' σ' s
noncomputable def TAs (sc:Scope) (d:Nat) (m:List MT) (v:List V) (ρ:List (Option V)) (σ:List AO) (ρ':List (Option V)) (σ':List AO):Prop :=
 ∀ w h₀ A env pe ι P s E xs,Fx w h₀ A env sc d → CTs sc pe m → St h₀ env.locals (Zs sc) ρ ι P σ s.heap → VRs ι P v xs → Zpv (cf w h₀ A env sc E) (assignInOrder ((assignEach pe env).map (·.2)) xs) ι P ρ' σ' s
section
variable {sc:Scope} {d:Nat} {ρ ρ₁ ρ₂ ρ₃:List (Option V)} {σ σ₁ σ₂ σ₃:List AO} {o:Out}
theorem Zdj {c:Cf} {ρ ι P σ s R} (S:St c.h₀ c.L c.N ρ ι P σ s.heap) (k:Aff c ρ ι P σ s R) (tk:Nat):R ι P { s with toks:=tk } :=
 k ι P s.heap tk (List.prefix_refl _) (.refl _) S
theorem Ze7 {w h₀ A env ι P s} {E:Value → Shared → Prop} {i:Nat} {n:Str} {v:V} {x:Value} {Q:Unit → Shared → Prop} (F:Fx w h₀ A env sc d) (S:St h₀ env.locals (Zs sc) ρ ι P σ s.heap) (h1:(Zs sc)[i]? = some n) (h2:sc.names.lookup n = some .local)
  (hr:VR ι P v x) (k:Aff (cf w h₀ A env sc E) (ρ.set i (some v)) ι P σ s (fun _ _ s' => Q () s')):wpAny (model pw w) A (storeName env n x) Q E s:=by
 obtain ⟨m,hm,hv⟩:=S.ns
 refine up (wpAny_storeName_local (by rw [Env.kindOf,F.scope];exact h2) hm (fun h' hn hs => ?_) (by rw [F.scope,F.kind];rfl))
 exact k ι P h' _ (List.prefix_refl _) (.refl _) (S.setLoc F.nodup h1 hm hv hn hs hr)
theorem TA.loc {i:Nat} {v:V}:TA sc d (.loc i) v ρ σ (ρ.set i (some v)) σ:=by
 intro w h₀ A env pe ι P s E x F C S hr Q k
 obtain ⟨_,_,rfl,h1,h2⟩:=C
 exact Zeu (Ze7 F S h1 h2 hr k)
theorem TAs.nil:TAs sc d [] [] ρ σ ρ σ:=by
 intro w h₀ A env pe ι P s E xs F C S hr Q k
 cases C
 obtain rfl:=hr.inv0
 exact wpAny_pure (Zdj S k s.toks)
theorem ZH {env:Env} {e:Expr} {es:List Expr} {m:MT} (C:CT sc e m):assignEach (e :: es) env = (false,assign e env) :: assignEach es env:=by
 cases m <;> (obtain ⟨_,_,h⟩:=C)
 ·obtain ⟨rfl,_⟩:=h;rfl
 ·obtain ⟨_,_,rfl,_⟩:=h;rfl
 ·obtain ⟨_,rfl,_⟩:=h;rfl
 ·obtain ⟨_,rfl,_⟩:=h;rfl
theorem TAs.cons {t:MT} {ts:List MT} {v:V} {vs:List V} (h1:TA sc d t v ρ σ ρ₁ σ₁) (h2:TAs sc d ts vs ρ₁ σ₁ ρ₂ σ₂):TAs sc d (t :: ts) (v :: vs) ρ σ ρ₂ σ₂:=by
 intro w h₀ A env pe ι P s E xs F C S hr Q k
 obtain ⟨_,_,rfl,c1,c2⟩:=C
 obtain ⟨_,_,rfl,r1,r2⟩:=hr.inv
 ·rw [ZH c1]
  show wpAny _ _ (do holding _ (assign _ env _);assignInOrder ((assignEach _ env).map (·.2)) _) _ _ _
  refine wpAny_bind (wpAny_holding (h1 w h₀ A env _ ι P s E _ F c1 S r1 _ ?_))
  intro ι₁ P₁ g₁ t₁ i₁ p₁ S₁
  exact h2 w h₀ A env _ ι₁ P₁ _ E _ F c2 S₁ (r2.mono i₁ p₁) _ (k.up i₁ p₁)
theorem CTs.noStar {env:Env} {es:List Expr} {ts:List MT} (C:CTs sc es ts):(assignEach es env).length = ts.length ∧ (assignEach es env).findIdx? (·.1) = none:=by
 induction ts generalizing es with
 | nil => cases C;exact ⟨rfl,rfl⟩
 | cons _ _ ih =>
  obtain ⟨_,_,rfl,c1,c2⟩:=C
  rw [ZH c1]
  exact ⟨by simp [(ih c2).1],by simpa [List.findIdx?_cons] using (ih c2).2⟩
theorem TA.tup {ts:List MT} {vs:List V} (h1:TAs sc d ts vs ρ σ ρ₁ σ₁) (hl:ts.length = vs.length:=by rfl):TA sc d (.tup ts) (.tup vs) ρ σ ρ₁ σ₁:=by
 intro w h₀ A env pe ι P s E x F C S hr Q k
 obtain ⟨_,_,_,rfl,c1⟩:=C
 obtain ⟨_,_,_,rfl,e,es⟩:=hr.tup'
 ·obtain ⟨n1,n2⟩:=c1.noStar (env:=env)
  refine ZbV F.hand ⟨_,S.keep _ _ e,rfl,_,rfl⟩ (by rw [n1,hl,es.length];simp) n2 fun h' hx => ?_
  have S':=S.ext fun b o e => hx b o (Nat.ne_of_lt (Heap.lt_size e)) e
  exact h1 w h₀ A env _ ι P { s with heap:=h' } E _ F c1 S' es _ (k.up (List.prefix_refl _) (.refl _))
theorem TSs.nil:TSs sc d [] ρ σ (.next ρ) σ:=by
 intro w h₀ A env pe ι P s E F C S Q k
 cases C
 exact wpAny_execs_nil (Zdj S k s.toks _ .next)
theorem TSs.cons {m:MS} {ms:List MS} (h1:TS sc d m ρ σ (.next ρ₁) σ₁) (h2:TSs sc d ms ρ₁ σ₁ o σ₂):TSs sc d (m :: ms) ρ σ o σ₂:=by
 intro w h₀ A env pe ι P s E F C S Q k
 obtain ⟨_,_,rfl,c1,c2⟩:=C
 refine wpAny_execs_cons (h1 w h₀ A env _ ι P s E F c1 S _ ?_)
 intro ι₁ P₁ g₁ t₁ i₁ p₁ S₁ f hf
 obtain rfl:=hf.next'
 exact h2 w h₀ A env _ ι₁ P₁ { s with heap:=g₁,toks:=t₁ } E F c2 S₁ _ (k.up i₁ p₁)
noncomputable def Out.leaves:Out → Prop
 | .next _ => False
 | _ => True
theorem TSs.stop {m:MS} {ms:List MS} (h1:TS sc d m ρ σ o σ₁) (ho:o.leaves):TSs sc d (m :: ms) ρ σ o σ₁:=by
 intro w h₀ A env pe ι P s E F C S Q k
 obtain ⟨_,_,rfl,c1,c2⟩:=C
 refine wpAny_execs_cons (h1 w h₀ A env _ ι P s E F c1 S _ ?_)
 intro ι₁ P₁ g₁ t₁ i₁ p₁ S₁ f hf
 have q:=k ι₁ P₁ g₁ t₁ i₁ p₁ S₁ f hf
 cases hf with
 | next => exact ho.elim
 | ret => exact q
 | brk => exact q
theorem TS.pass:TS sc d .pass ρ σ (.next ρ) σ:=by
 intro w h₀ A env pe ι P s E F C S Q k
 obtain ⟨_,rfl⟩:=C
 exact ZjN (Zdj S k s.toks _ .next)
theorem TS.brk:TS sc d .brk ρ σ (.brk ρ) σ:=by
 intro w h₀ A env pe ι P s E F C S Q k
 obtain ⟨_,rfl⟩:=C
 exact ZiL (Zdj S k s.toks _ .brk)
theorem TS.ret {e:ME} {v:V} (h1:TE sc d e ρ σ v σ₁):TS sc d (.ret (some e)) ρ σ (.ret v) σ₁:=by
 intro w h₀ A env pe ι P s E F C S Q k
 obtain ⟨_,_,rfl,c1⟩:=C
 refine wpAny_Return_some (h1 w h₀ A env _ ι P s E F c1 S _ ?_)
 intro ι₁ P₁ g₁ t₁ i₁ p₁ S₁ x hx
 exact k ι₁ P₁ g₁ t₁ i₁ p₁ S₁.forget _ (.ret hx)
theorem TS.ret0:TS sc d (.ret none) ρ σ (.ret .none) σ:=by
 intro w h₀ A env pe ι P s E F C S Q k
 obtain ⟨_,rfl⟩:=C
 exact Zet (k ι P s.heap s.toks (List.prefix_refl _) (.refl _) S.forget _ (.ret .none))
theorem TS.if_t {c:ME} {a b:List MS} (h1:TB sc d c ρ σ true σ₁) (h2:TSs sc d a ρ σ₁ o σ₂):TS sc d (.ife c a b) ρ σ o σ₂:=by
 intro w h₀ A env pe ι P s E F C S Q k
 obtain ⟨_,_,_,_,rfl,c0,c1,c2⟩:=C
 refine Zde (h1 w h₀ A env _ ι P s E F c0 S _ ?_)
 intro ι₁ P₁ g₁ t₁ i₁ p₁ S₁
 rw [if_pos rfl]
 exact h2 w h₀ A env _ ι₁ P₁ _ E F c1 S₁ _ (k.up i₁ p₁)
theorem TS.if_f {c:ME} {a b:List MS} (h1:TB sc d c ρ σ false σ₁) (h2:TSs sc d b ρ σ₁ o σ₂):TS sc d (.ife c a b) ρ σ o σ₂:=by
 intro w h₀ A env pe ι P s E F C S Q k
 obtain ⟨_,_,_,_,rfl,c0,c1,c2⟩:=C
 refine Zde (h1 w h₀ A env _ ι P s E F c0 S _ ?_)
 intro ι₁ P₁ g₁ t₁ i₁ p₁ S₁
 rw [if_neg (by decide)]
 exact h2 w h₀ A env _ ι₁ P₁ _ E F c2 S₁ _ (k.up i₁ p₁)
noncomputable def ZbX (m:ME):Bool:=match Ze4 m with
 | 14 => false
 | _ => true
noncomputable def ZmO (m:ME):Bool:=match Ze4 m with
 | 9 => true
 | _ => false
noncomputable def Zh6:MT → Bool
 | .tup .. => true
 | _ => false
theorem Zh7 {env:Env} {pe:Expr} {e:ME} {t:Option Expr} {l:Nat} (C:CE sc pe e) (hp:ZbX e = true):swapsWith pe t l env = pure false:=by
 have h:=C.dull
 unfold ZbX at hp
 rw [← C.shape] at hp
 cases pe <;> first | rfl | exact absurd h (Nat.lt_irrefl 0) | cases hp
theorem ZkM {env:Env} {pe:Expr} {t:Option Expr} {l:Nat} (h:Zd7 pe = false):swapsWith pe t l env = pure false:=by
 cases pe <;> first | rfl | cases h
theorem ZeB {env:Env} {pe pt:Expr} {e:ME} {t:MT} (C:CE sc pe e) (D:CT sc pt t) (hp:(Zh6 t && ZmO e) = false):swappedStores [pt] pe env = pure none:=by
 have h:=C.dull
 unfold ZmO at hp
 rw [← C.shape] at hp
 cases t with
 | loc => obtain ⟨_,_,rfl,_⟩:=D;rfl
 | attr => obtain ⟨_,_,_,_,rfl,_⟩:=D;rfl
 | sub => obtain ⟨_,_,_,rfl,_⟩:=D;rfl
 | tup => obtain ⟨_,_,_,rfl,_⟩:=D;cases pe <;> first | rfl | exact absurd h (Nat.lt_irrefl 0) | cases hp
theorem TS.assign {t:MT} {e:ME} {v:V} (h1:TE sc d e ρ σ v σ₁) (h2:TA sc d t v ρ σ₁ ρ₂ σ₂) (hp:ZbX e = true:=by rfl) (hq:(Zh6 t && ZmO e) = false:=by rfl):TS sc d (.assign t e) ρ σ (.next ρ₂) σ₂:=by
 intro w h₀ A env pe ι P s E F C S Q k
 obtain ⟨_,_,_,rfl,c1,c2⟩:=C
 refine Zv (h1 w h₀ A env _ ι P s E F c2 S _ ?_) (Zh7 c2 hp) (ZeB c2 c1 hq)
 intro ι₁ P₁ g₁ t₁ i₁ p₁ S₁ x hx
 rw [ZH c1]
 exact h2 w h₀ A env _ ι₁ P₁ { s with heap:=g₁,toks:=t₁ } E x F c1 S₁ hx _ fun ι₂ P₂ g₂ t₂ i₂ p₂ S₂ => k ι₂ P₂ g₂ t₂ (i₁.trans i₂) (p₁.trans p₂) S₂ _ .next
theorem TS.aug {i:Nat} {op:Operator} {e:ME} {u v r:V} (h0:ρ[i]? = some (some u)) (h1:TE sc d e ρ σ v σ₁) (h3:OpV d (fun l => match l with | [a,b] => inplaceOp op a b | _ => unsupported "") [u,v] σ₁ r σ₂):TS sc d (.aug i op e) ρ σ (.next (ρ.set i (some r))) σ₂:=by
 intro w h₀ A env pe ι P s E F C S Q k
 obtain ⟨_,_,_,_,rfl,n1,n2,n3,c1⟩:=C
 obtain ⟨m,hm,hv⟩:=S.ns
 obtain ⟨x,hx,hr⟩:=hv i _ u n1 h0
 refine Zdf (up (wpAny_loadName_local (by rw [F.scope];exact F.kind) (by rw [Env.kindOf,F.scope];exact n2) hm hx ?_))
 refine h1 w h₀ A env _ ι P s E F c1 S _ ?_
 intro ι₁ P₁ g₁ t₁ i₁ p₁ S₁ y hy
 refine h3 (cx w h₀ A env sc ρ E) ι₁ P₁ _ _ F.toRm S₁ (.cons (hr.mono i₁ p₁) (.cons hy .nil)) _ ?_
 intro ι₂ P₂ g₂ t₂ i₂ p₂ S₂ z hz
 exact Ze7 F S₂ n1 n2 hz fun ι₃ P₃ g₃ t₃ i₃ p₃ S₃ => k ι₃ P₃ g₃ t₃ (i₁.trans (i₂.trans i₃)) (p₁.trans (p₂.trans p₃)) S₃ _ .next
end
noncomputable def Wh (sc:Scope) (d:Nat) (c:ME) (b:List MS):Nat → List (Option V) → List AO → Out → List AO → Prop
 | 0,ρ,σ,o,σ₃ => (TB sc d c ρ σ false σ₃ ∧ o = .next ρ) ∨ (∃ σ₁ v,TB sc d c ρ σ true σ₁ ∧ TSs sc d b ρ σ₁ (.ret v) σ₃ ∧ o = .ret v) ∨ (∃ σ₁ ρ₂,TB sc d c ρ σ true σ₁ ∧ TSs sc d b ρ σ₁ (.brk ρ₂) σ₃ ∧ o = .next ρ₂)
 | n + 1,ρ,σ,o,σ₃ => ∃ σ₁ ρ₂ σ₂,TB sc d c ρ σ true σ₁ ∧ TSs sc d b ρ σ₁ (.next ρ₂) σ₂ ∧ Wh sc d c b n ρ₂ σ₂ o σ₃
section
variable {sc:Scope} {d:Nat} {c:ME} {b:List MS} {ρ ρ₂:List (Option V)} {σ σ₁ σ₂ σ₃:List AO} {o:Out}
theorem Wh.done (t:TB sc d c ρ σ false σ₁):Wh sc d c b 0 ρ σ (.next ρ) σ₁:=.inl ⟨t,rfl⟩
theorem Wh.step {n:Nat} (t1:TB sc d c ρ σ true σ₁) (t2:TSs sc d b ρ σ₁ (.next ρ₂) σ₂) (t3:Wh sc d c b n ρ₂ σ₂ o σ₃):Wh sc d c b (n + 1) ρ σ o σ₃:=⟨_,_,_,t1,t2,t3⟩
theorem Wh.ret {v:V} (t1:TB sc d c ρ σ true σ₁) (t2:TSs sc d b ρ σ₁ (.ret v) σ₂):Wh sc d c b 0 ρ σ (.ret v) σ₂:=.inr (.inl ⟨_,_,t1,t2,rfl⟩)
theorem Wh.brk (t1:TB sc d c ρ σ true σ₁) (t2:TSs sc d b ρ σ₁ (.brk ρ₂) σ₂):Wh sc d c b 0 ρ σ (.next ρ₂) σ₂:=.inr (.inr ⟨_,_,t1,t2,rfl⟩)
end
section
variable {sc:Scope} {d:Nat} {ρ ρ₁ ρ₂ ρ₃:List (Option V)} {σ σ₁ σ₂ σ₃:List AO} {o:Out}
theorem Aff.next {c:Cf} {ι P s} {Q:Flow → Shared → Prop} (k:Aff c o.env ι P σ s fun ι' P' s' => ∀ f,FR ι' P' o f → Q f s') (e:o = .next ρ):Aff c ρ ι P σ s fun _ _ s' => Q .next s':=by
 subst e
 exact fun ι' P' h' tk i p S => k ι' P' h' tk i p S _ .next
theorem Aff.ret {c:Cf} {ι P s v} {Q:Flow → Shared → Prop} (k:Aff c o.env ι P σ s fun ι' P' s' => ∀ f,FR ι' P' o f → Q f s') (e:o = .ret v):Aff c [] ι P σ s fun ι' P' s' => ∀ f,FR ι' P' (.ret v) f → ∃ x,f = .ret x ∧ Q f s':=by
 subst e
 intro ι' P' h' tk i p S f hf
 obtain ⟨x,rfl,hx⟩:=hf.ret'
 exact ⟨x,rfl,k ι' P' h' tk i p S _ (.ret hx)⟩
inductive WhInv (h₀:Heap) (L:Addr) (sc:Scope) (d:Nat) (c:ME) (b:List MS) (o:Out) (σ₁:List AO) (s:Shared) (ι:Ix) (P:Z2) (n:Nat) (s':Shared):Prop
 | mk (ρ':List (Option V)) (σ':List AO) (ι':Ix) (P':Z2) (h':Heap) (tk:Nat) (hs:s' = { s with heap:=h',toks:=tk }) (hi:ι <+: ι') (hp:FrzLe P P') (S:St h₀ L (Zs sc) ρ' ι' P' σ' h') (W:Wh sc d c b n ρ' σ' o σ₁)
theorem TS.while {c:ME} {b:List MS} {n:Nat} (h:Wh sc d c b n ρ σ o σ₁):TS sc d (.while c b) ρ σ o σ₁:=by
 intro w h₀ A env pe ι P s E F C S Q k
 obtain ⟨_,_,_,rfl,c0,c1⟩:=C
 refine Zft (Zcd (WhInv h₀ env.locals sc d c b o σ₁ s ι P) ?_ n
  ⟨ρ,σ,ι,P,s.heap,s.toks,rfl,List.prefix_refl _,.refl _,S,h⟩)
 rintro n s' ⟨ρ',σ',ι',P',h',tk,rfl,i',p',S',W⟩
 cases n with
 | zero =>
  rcases W with W | W | W
  ·obtain ⟨t1,e⟩:=W
   refine t1 w h₀ A env _ ι' P' { s with heap:=h',toks:=tk } _ F c0 S' _ ?_
   intro ι₁ P₁ g₁ t₁ i₁ p₁ S₁
   rw [if_neg (by decide)]
   exact wpAny_execs_nil (k.next e ι₁ P₁ g₁ t₁ (i'.trans i₁) (p'.trans p₁) S₁)
  ·obtain ⟨_,v,t1,t2,e⟩:=W
   refine t1 w h₀ A env _ ι' P' { s with heap:=h',toks:=tk } _ F c0 S' _ ?_
   intro ι₁ P₁ g₁ t₁ i₁ p₁ S₁
   rw [if_pos rfl]
   refine t2 w h₀ A env _ ι₁ P₁ { s with heap:=g₁,toks:=t₁ } (notedBy (model pw w) A env fun e s' => cameBackBy (model pw w) A env E e s') F c1 S₁ _ ?_
   intro ι₂ P₂ g₂ t₂ i₂ p₂ S₂ f hf
   obtain ⟨x,rfl,q⟩:=k.ret e ι₂ P₂ g₂ t₂ (i'.trans (i₁.trans i₂)) (p'.trans (p₁.trans p₂)) S₂ f hf
   exact q
  ·obtain ⟨_,_,t1,t2,e⟩:=W
   refine t1 w h₀ A env _ ι' P' { s with heap:=h',toks:=tk } _ F c0 S' _ ?_
   intro ι₁ P₁ g₁ t₁ i₁ p₁ S₁
   rw [if_pos rfl]
   refine t2 w h₀ A env _ ι₁ P₁ { s with heap:=g₁,toks:=t₁ } (notedBy (model pw w) A env fun e s' => cameBackBy (model pw w) A env E e s') F c1 S₁ _ ?_
   intro ι₂ P₂ g₂ t₂ i₂ p₂ S₂ f hf
   obtain rfl:=hf.brk'
   exact k.next e ι₂ P₂ g₂ t₂ (i'.trans (i₁.trans i₂)) (p'.trans (p₁.trans p₂)) S₂
 | succ m =>
  obtain ⟨_,_,_,t1,t2,t3⟩:=W
  refine t1 w h₀ A env _ ι' P' { s with heap:=h',toks:=tk } _ F c0 S' _ ?_
  intro ι₁ P₁ g₁ t₁ i₁ p₁ S₁
  rw [if_pos rfl]
  refine t2 w h₀ A env _ ι₁ P₁ { s with heap:=g₁,toks:=t₁ } (notedBy (model pw w) A env fun e s' => cameBackBy (model pw w) A env E e s') F c1 S₁ _ ?_
  intro ι₂ P₂ g₂ t₂ i₂ p₂ S₂ f hf
  obtain rfl:=hf.next'
  exact ⟨_,Nat.lt_succ_self _,_,_,ι₂,P₂,g₂,t₂,rfl,i'.trans (i₁.trans i₂),p'.trans (p₁.trans p₂),S₂,t3⟩
end
noncomputable def live:Nat → ME → Bool
 | 0,m => match Ze4 m with
  | 1 | 3 | 4 | 5 | 9 | 11 => false
  | _ => true
 | n + 1,m => match m with
  | .cst _ => false
  | .un _ a => live n a
  | .bin _ a b => live n a || live n b
  | .sub a b => live n a || live n b
  | .tup as => as.any (live n)
  | _ => true
noncomputable def ZiT (n:Nat) (as:List ME):Bool:=as.any (live n)
noncomputable def ZaY (ρ:List (Option V)):List (Nat × V) → List (Option V)
 | [] => ρ
 | p :: ps => ZaY (ρ.set p.1 (some p.2)) ps
theorem Zgi:∀ (ps qs:List (Nat × V)) (ρ:List (Option V)),ZaY ρ (ps ++ qs) = ZaY (ZaY ρ ps) qs
 | [],_,_ => rfl
 | p :: ps,qs,ρ => Zgi ps qs _
theorem Zfy (i:Nat) (v:V):∀ (ps:List (Nat × V)) (ρ:List (Option V)),i ∉ ps.map (·.1) → (ZaY ρ ps).set i (some v) = ZaY (ρ.set i (some v)) ps
 | [],_,_ => rfl
 | p :: ps,ρ,h => by
  simp only [List.map_cons,List.mem_cons,not_or] at h
  rw [ZaY,Zfy i v ps _ h.2,ZaY,List.set_comm _ _ (Ne.symm h.1)]
theorem Zdk:∀ (ps:List (Nat × V)) (ρ:List (Option V)),(ps.map (·.1)).Nodup → ZaY ρ ps.reverse = ZaY ρ ps
 | [],_,_ => rfl
 | p :: ps,ρ,h => by
  rw [List.map_cons,List.nodup_cons] at h
  rw [List.reverse_cons,Zgi,Zdk ps ρ h.2]
  show (ZaY ρ ps).set p.1 (some p.2) = _
  rw [Zfy _ _ _ _ h.1]
  rfl
noncomputable def ZjX (k:Nat):Bool:=match k with
 | 0 | 1 | 2 | 3 | 4 | 5 | 9 | 11 => false
 | _ => true
theorem ZmP (n:Nat) {e:Expr} (h:ZjX (ZjR e) = true):constantsAlone n e = false:=by
 cases e with
 | UnaryOp op => cases op <;> cases h
 | _ => first | (cases h;done) | (cases n <;> rfl)
theorem ZhA {n:Nat} (ih:∀ (m:ME) (sc:Scope) (e:Expr),CE sc e m → live n m = true → constantsAlone n e = false) {sc:Scope} {ms:List ME} {es:List Expr} (C:CEs sc es ms) (h:ZiT n ms = true):es.all (constantsAlone n) = false:=by
 induction ms generalizing es with
 | nil => cases h
 | cons m ms ihm =>
  obtain ⟨_,_,rfl,c1,c2⟩:=C
  rw [List.all_cons]
  rcases Bool.or_eq_true_iff.mp (show (live n m || ZiT n ms) = true from h) with h | h
  ·rw [ih _ _ _ c1 h];rfl
  ·rw [ihm c2 h,Bool.and_false]
theorem Zlr (n:Nat):∀ (m:ME) (sc:Scope) (e:Expr),CE sc e m → live n m = true → constantsAlone n e = false:=by
 have two:∀ n {a b:Expr} {x y:Bool},(x || y) = true → (x = true → constantsAlone n a = false) → (y = true → constantsAlone n b = false) → (constantsAlone n a && constantsAlone n b) = false:=fun n a b x y h h1 h2 => by
  rcases Bool.or_eq_true_iff.mp h with h | h
  ·rw [h1 h];rfl
  ·rw [h2 h,Bool.and_false]
 induction n with
 | zero =>
  intro m sc e C h
  cases m with
  | loc => obtain ⟨_,_,rfl,_,_,hd⟩:=C;exact hd
  | glob => obtain ⟨_,_,rfl,_,_,hd⟩:=C;exact hd
  | un op => cases op <;> cases h
  | _ => first | (cases h;done) | exact ZmP 0 (by rw [C.shape];rfl)
 | succ n ih =>
  intro m sc e C h
  cases m with
  | cst => cases h
  | loc => obtain ⟨_,_,rfl,_,_,hd⟩:=C;exact hd
  | glob => obtain ⟨_,_,rfl,_,_,hd⟩:=C;exact hd
  | bin =>
   obtain ⟨_,_,_,rfl,c1,c2⟩:=C
   exact two n h (ih _ _ _ c1) (ih _ _ _ c2)
  | un => obtain ⟨_,_,rfl,c1⟩:=C;exact ih _ _ _ c1 h
  | sub =>
   obtain ⟨_,_,_,rfl,c1,c2⟩:=C
   exact two n h (ih _ _ _ c1) (ih _ _ _ c2)
  | slc =>
   obtain ⟨_,_,_,_,_,rfl,c1,c2,c3⟩:=C
   refine (congrArg (constantsAlone n _ && ·) (?_:constantsAlone n (.Slice ..) = false)).trans (Bool.and_false _)
   cases n <;> rfl
  | tup => obtain ⟨_,_,_,rfl,c1⟩:=C;exact ZhA ih c1 h
  | _ => exact ZmP (n + 1) (by rw [C.shape];rfl)
noncomputable def ZdF:List MT → Option (List Nat)
 | [] => some []
 | .loc i :: ts => (ZdF ts).map (i :: ·)
 | _ => none
section
variable {sc:Scope} {d:Nat} {ρ:List (Option V)} {σ σ₁:List AO}
theorem ZmQ {env:Env} {line:Nat} (he:env.scope = sc) {es:List Expr} {ts:List MT} {is:List Nat} {f:Expr → Option Str} (C:CTs sc es ts) (hs:ZdF ts = some is) (hf:∀ n p,f (.Name n p) = if env.kindOf n == some .local && p.line == line then some n else none) (hl:(es.filterMap f).length = es.length) :
  ∃ ns,es.filterMap f = ns ∧ ns.length = is.length ∧ ∀ (k:Nat) (n:Str) (i:Nat),ns[k]? = some n → is[k]? = some i → (Zs sc)[i]? = some n ∧ sc.names.lookup n = some .local:=by
 induction ts generalizing es is with
 | nil =>
  cases C
  cases hs
  exact ⟨[],rfl,rfl,fun k n i h _ => nomatch h⟩
 | cons t ts ih =>
  obtain ⟨e,es,rfl,c1,c2⟩:=C
  cases t with
  | loc i =>
   obtain ⟨n,p,rfl,h1,h2⟩:=c1
   obtain ⟨is',hs',rfl⟩:=Option.map_eq_some_iff.mp hs
   have hle:=List.length_filterMap_le f es
   cases hfe:f (.Name n p) with
   | none =>
    rw [List.filterMap_cons_none hfe] at hl
    exact absurd (hl ▸ hle) (Nat.not_succ_le_self _)
   | some n' =>
    have:n' = n:=by
     rw [hf] at hfe
     split at hfe
     ·exact (Option.some.inj hfe).symm
     ·cases hfe
    subst this
    rw [List.filterMap_cons_some hfe] at hl ⊢
    obtain ⟨ns,e1,e2,e3⟩:=ih c2 hs' (Nat.succ.inj hl)
    refine ⟨n' :: ns,by rw [e1],congrArg (· + 1) e2,fun k m j hk hj => ?_⟩
    cases k with
    | zero => cases hk;cases hj;exact ⟨h1,h2⟩
    | succ k => exact e3 k m j hk hj
  | _ => cases hs
noncomputable def Zh8:List ME → Bool
 | [] => true
 | .cst _ :: as => Zh8 as
 | _ => false
theorem ZjY {as:List ME} {vs:List Expr} (C:CEs sc vs as) (h:Zh8 as = true):vs.all (foldedForSure 8) = true:=by
 induction as generalizing vs with
 | nil => cases C;rfl
 | cons a as ih =>
  obtain ⟨_,_,rfl,c1,c2⟩:=C
  cases a with
  | cst => obtain ⟨_,_,rfl⟩:=c1;have q:=ih c2 h;exact q
  | _ => cases h
theorem Zg6 {env:Env} (he:env.scope = sc) {es vs:List Expr} {ts:List MT} {as:List ME} {is:List Nat} {k k':Nat} {p p':Pos} (C:CTs sc es ts) (D:CEs sc vs as) (hs:ZdF ts = some is) (hl:ZiT 8 as = true ∨ Zh8 as = true) :
  swappedStores [.Tuple es k p] (.Tuple vs k' p') env = pure none ∨ ∃ ns,swappedStores [.Tuple es k p] (.Tuple vs k' p') env = pure (some ns) ∧ ns.length = is.length ∧ ∀ (k:Nat) (n:Str) (i:Nat),ns[k]? = some n → is[k]? = some i → (Zs sc)[i]? = some n ∧ sc.names.lookup n = some .local:=by
 have ha:ZiT 8 as = true → vs.all (constantsAlone 8) = false:=ZhA (Zlr 8) D
 unfold swappedStores
 dsimp only
 split
 ·exact .inl rfl
 ·split
  ·exact .inl rfl
  ·split
   ·exact .inl rfl
   ·rename_i h3
    split
    ·exact .inl rfl
    ·rename_i h4
     rcases hl with hl | hl
     case inr => exact absurd (ZjY D hl) h4
     rw [ha hl,if_neg (by decide)]
     rw [Bool.or_eq_true,not_or,bne_iff_ne,ne_eq,Decidable.not_not] at h3
     refine .inr ?_
     obtain ⟨ns,e1,e2,e3⟩:=ZmQ (env:=env) (line:=((es.head?.map (·.pos.line)).getD 0)) he C hs (fun _ _ => rfl) h3.1
     exact ⟨ns,by rw [← e1],e2,e3⟩
theorem ZmR {w:World} {h₀:Heap} {A:Around} {env:Env} {E:Value → Shared → Prop} (F:Fx w h₀ A env sc d):∀ (ns:List Str) (ps:List (Nat × V)) (xs:List Value) (ρ:List (Option V)) (ι:Ix) (P:Z2) (s:Shared) (Q:Unit → Shared → Prop),
  ns.length = ps.length → (∀ (k:Nat) (n:Str) (q:Nat × V),ns[k]? = some n → ps[k]? = some q → (Zs sc)[q.1]? = some n ∧ sc.names.lookup n = some .local) → VRs ι P (ps.map (·.2)) xs → St h₀ env.locals (Zs sc) ρ ι P σ s.heap →
  Aff (cf w h₀ A env sc E) (ZaY ρ ps) ι P σ s (fun _ _ s' => Q () s') → wpAny (model pw w) A (assignInOrder (ns.map fun n => bindName env n) xs) Q E s:=by
 intro ns
 induction ns with
 | nil =>
  intro ps xs ρ ι P s Q hl _ hx S k
  have:ps = []:=List.eq_nil_of_length_eq_zero hl.symm
  subst this
  generalize hm:([]:List (Nat × V)).map (·.2) = vs at hx
  subst hm
  obtain rfl:=hx.inv0
  exact wpAny_pure (Zdj S k s.toks)
 | cons n ns ih =>
  intro ps xs ρ ι P s Q hl hn hx S k
  obtain ⟨p,ps',rfl⟩:∃ p ps',ps = p :: ps':=by
   cases ps with
   | nil => cases hl
   | cons p ps' => exact ⟨p,ps',rfl⟩
  obtain ⟨_,_,rfl,r1,r2⟩:=hx.inv
  ·obtain ⟨n1,n2⟩:=hn 0 n p rfl rfl
   show wpAny _ _ (do holding _ (bindName env n _);assignInOrder (ns.map fun n => bindName env n) _) _ _ _
   refine wpAny_bind (wpAny_holding (ZbU (Ze7 F S n1 n2 r1 ?_)))
   intro ι₁ P₁ g₁ t₁ i₁ p₁ S₁
   exact ih ps' _ _ ι₁ P₁ { s with heap:=g₁,toks:=t₁ } Q (by simpa using hl) (fun k m q h1 h2 => hn (k + 1) m q (by simpa using h1) (by simpa using h2)) (r2.mono i₁ p₁) S₁ (k.up i₁ p₁)
theorem TAs.slots {ts:List MT} {is:List Nat} {vs:List V} {ρ:List (Option V)} (hs:ZdF ts = some is) (hl:is.length = vs.length):TAs sc d ts vs ρ σ (ZaY ρ (is.zip vs)) σ:=by
 induction ts generalizing is vs ρ with
 | nil =>
  cases hs
  cases vs with
  | nil => exact TAs.nil
  | cons _ _ => cases hl
 | cons t ts ih =>
  cases t with
  | loc i =>
   obtain ⟨is',hs',rfl⟩:=Option.map_eq_some_iff.mp hs
   cases vs with
   | nil => cases hl
   | cons v vs => exact TAs.cons TA.loc (ih hs' (Nat.succ.inj hl))
  | _ => cases hs
theorem Zh9 {ts:List MT} {is:List Nat} (hs:ZdF ts = some is):ts.length = is.length:=by
 induction ts generalizing is with
 | nil => cases hs;rfl
 | cons t ts ih =>
  cases t with
  | loc i =>
   obtain ⟨is',hs',rfl⟩:=Option.map_eq_some_iff.mp hs
   exact congrArg (· + 1) (ih hs')
  | _ => cases hs
theorem TS.pack {ts:List MT} {as:List ME} {is:List Nat} {vs:List V} (h1:TEs sc d as ρ σ vs σ₁) (hs:ZdF ts = some is) (hl:ZiT 8 as = true ∨ Zh8 as = true) (hlen:is.length = vs.length) (hn:is.Nodup) (hz:vs.length ≤ 1000) :
  TS sc d (.assign (.tup ts) (.tup as)) ρ σ (.next (ZaY ρ (is.zip vs))) σ₁:=by
 intro w h₀ A env pe ι P s E F C S Q k
 obtain ⟨_,_,_,rfl,c1,c2⟩:=C
 have c1':=c1
 have c2':=c2
 obtain ⟨_,_,_,rfl,c1⟩:=c1
 obtain ⟨_,_,_,rfl,c2⟩:=c2
 rename_i es k1 p1 vs' k2 p2
 have TV:=TE.tup h1 hz
 rcases Zg6 (k:=k1) (k':=k2) (p:=p1) (p':=p2) F.scope c1 c2 hs hl with hw | ⟨ns,hw,hnl,hnp⟩
 ·refine Zv (TV w h₀ A env _ ι P s E F c2' S _ ?_) rfl hw
  intro ι₁ P₁ g₁ t₁ i₁ p₁ S₁ x hx
  rw [ZH c1']
  exact TA.tup (TAs.slots hs hlen) (by rw [Zh9 hs,hlen]) w h₀ A env _ ι₁ P₁ { s with heap:=g₁,toks:=t₁ } E x F c1' S₁ hx _ fun ι₂ P₂ g₂ t₂ i₂ p₂ S₂ => k ι₂ P₂ g₂ t₂ (i₁.trans i₂) (p₁.trans p₂) S₂ _ .next
 ·rw [exec_Assign_arm]
  refine wpAny_bind (wpAny_standAt ?_)
  refine wpAny_bind (wpAny_of_eq (a:=false) rfl ?_)
  rw [if_neg (by decide)]
  refine wpAny_bind (TV w h₀ A env _ ι P s E F c2' S _ ?_)
  intro ι₁ P₁ g₁ t₁ i₁ p₁ S₁ x hx
  rw [hw]
  refine wpAny_bind (wpAny_pure ?_)
  obtain ⟨a,items,n,rfl,e,es'⟩:=hx.tup'
  ·have hsz:ns.length = items.size:=by rw [hnl,hlen,es'.length];simp
   show wpAny _ _ (do
    rule "assign.swapped-stores"
    let items ← unpackItems (.ref a) ns.length none
    assignInOrder (ns.reverse.map fun n => bindName env n) items.reverse
    pure Flow.next) _ _ _
   refine wpAny_bind (wpAny_rule ?_)
   rw [hsz]
   refine wpAny_bind (up (wpAny_unpackItems_tuple F.hand ⟨_,S₁.keep _ _ e,rfl,_,rfl⟩ fun h' hx => ?_))
   have S2:=S₁.ext fun b o e' => hx b o (Nat.ne_of_lt (Heap.lt_size e')) e'
   refine wpAny_bind (ZmR F ns.reverse (is.zip vs).reverse items.toList.reverse ρ ι₁ P₁ { s with heap:=h',toks:=t₁ } _ (by simp [hnl,hlen]) ?_ ?_ S2 ?_)
   ·intro j m q hj hq
    have hzl:(is.zip vs).length = ns.length:=by simp [hnl,hlen]
    have hjl:j < ns.length:=by
     rcases Nat.lt_or_ge j ns.length with h | h
     ·exact h
     ·rw [List.getElem?_eq_none (by simpa using h)] at hj;cases hj
    rw [List.getElem?_reverse hjl] at hj
    rw [List.getElem?_reverse (by rw [hzl];exact hjl),hzl] at hq
    rw [List.getElem?_zip_eq_some] at hq
    exact hnp _ _ _ hj hq.1
   ·rw [List.map_reverse,List.map_snd_zip (by omega)]
    exact es'.reverse
   ·intro ι₃ P₃ g₃ t₃ i₃ p₃ S₃
    rw [Zdk _ _ (by rw [List.map_fst_zip (by omega)];exact hn)] at S₃
    exact wpAny_pure (k ι₃ P₃ g₃ t₃ (i₁.trans i₃) (p₁.trans p₃) S₃ _ .next)
end
end Mine
section
namespace Mine
open Builtin
theorem Zls (b:Array UInt8) {k:Int} (h0:0 ≤ k) (h1:k < 256):b.contains k.toNat.toUInt8 = (KBw.bInts b).contains k:=by
 rw [Bool.eq_iff_iff,Array.contains_iff_mem,List.contains_iff_mem]
 unfold KBw.bInts
 rw [List.mem_map,← Array.mem_toList_iff]
 constructor
 ·intro h
  refine ⟨_,h,?_⟩
  rw [UInt8.toNat_ofNat']
  omega
 ·rintro ⟨c,hc,e⟩
  have:k.toNat.toUInt8 = c:=by
   apply UInt8.toNat_inj.mp
   rw [UInt8.toNat_ofNat']
   have:=c.toNat_lt
   omega
  rw [this];exact hc
theorem ZiU {b:Array UInt8} {t u:Tok} {k:Int} (h0:0 ≤ k) (h1:k < 256):Gives (Builtin.«bytes.__contains__» ⟨[.bytes b t,.int k u],[]⟩) (.val (.bool ((KBw.bInts b).contains k))):=by
 refine .of_wp fun M A E s Q hq => ?_
 show PySem.wpAny M A (Bytes.containsIn "bytes.__contains__" (.bytes b t) (.int k u) >>= fun r => ret (.bool r)) _ E s
 refine PySem.wpAny_bind ?_
 unfold Bytes.containsIn
 have e1:asIndex (.int k u) = pure k:=by first | rfl | kernel_rfl
 rw [e1]
 refine PySem.wpAny_bind (PySem.wpAny_attempt (PySem.wpAny_pure ?_))
 refine PySem.wpAny_bind (PySem.wpAny_of_eq KBy.buffer_eq ?_)
 dsimp only
 rw [if_neg (by simp;omega)]
 rw [← Zls b h0 h1] at hq
 exact PySem.wpAny_pure (PySem.wpAny_pure ⟨_,rfl,hq⟩)
section
variable {d:Nat} {σ:List AO} {ks ls:List Int} {a:Int}
theorem Zay (h0:0 ≤ a) (h1:a < 256):OpV d (Cmp .In) [.int a,.bytes ks] σ (.bool (ks.contains a)) σ:=.two fun c ι P s x y R S r1 r2 Q kQ => by
 obtain ⟨u,rfl⟩:=r1.int'
 obtain ⟨b,t,rfl,rfl⟩:=r2.bytes'
 exact up (in_gives (typeIs_bytes _ _ _) FB.slot_bytes_contains FB.entry_bytes_contains (FB.args_bytes_contains_2 _ _) (ZiU h0 h1) (Ze S kQ s.toks _ .bool))
theorem Zp3 (h0:0 ≤ a) (h1:a < 256):OpV d (Cmp .NotIn) [.int a,.bytes ks] σ (.bool (!(ks.contains a))) σ:=.two fun c ι P s x y R S r1 r2 Q kQ => by
 obtain ⟨u,rfl⟩:=r1.int'
 obtain ⟨b,t,rfl,rfl⟩:=r2.bytes'
 exact up (notIn_gives (typeIs_bytes _ _ _) FB.slot_bytes_contains FB.entry_bytes_contains (FB.args_bytes_contains_2 _ _) (ZiU h0 h1) (Ze S kQ s.toks _ .bool))
theorem Zlt:Slot "bytes" "find" "bytes.find" :=
 .of (owner:="bytes") (n:="find") (by rw [typeLookup_type,builtinLookup_eq_fast];kernel_rfl) (by decide +kernel) (by decide +kernel) (by decide +kernel)
  (by first | exact .inl (by decide +kernel) | exact .inr (by decide +kernel)) (by rw [isSubtype_type];kernel_rfl)
theorem ZjZ:entryFor table "bytes.find" = some Builtin.«bytes.find»:=entryFor_of_tree (by kernel_rfl)
theorem Zlu (a b:Value):argsOk "bytes.find" ⟨[a,b],[]⟩:=by
 unfold argsOk;rw [signature?_of (id:="bytes.find") (n:=['d','n','i','f']) (o:=['s','e','t','y','b']) (by kernel_rfl) FB.owner_bytes];kernel_rfl
noncomputable def ZaI (ks:List Int) (x:Int):Int:=match ks.findIdx? (· == x) with
 | some i => i
 | none => -1
theorem ZiV {b:Array UInt8} {i:Nat} (h:i < b.size):b.extract i (i + 1) = #[b[i]]:=by
 apply Array.ext'
 rw [Array.toList_extract]
 have:i < b.toList.length:=by simpa using h
 rw [List.extract_eq_take_drop,Nat.add_sub_cancel_left,List.drop_eq_getElem_cons this]
 simp
theorem ZmS (b:Array UInt8) (x:UInt8):Bytes.find? b #[x] 0 b.size = (KBw.bInts b).findIdx? (· == (x.toNat:Int)):=by
 unfold Bytes.find?
 have e:(List.range (b.size + 1 - (0 + (#[x]:Array UInt8).size))).map (· + 0) = List.range b.size:=by simp
 rw [e]
 have key:∀ i,i < b.size → ((b.extract i (i + (#[x]:Array UInt8).size) == #[x]) = true ↔ (KBw.bInts b)[i]? = some (x.toNat:Int)):=fun i hi => by
  rw [show (#[x]:Array UInt8).size = 1 from rfl,ZiV hi,beq_iff_eq]
  unfold KBw.bInts
  rw [List.getElem?_map,Array.getElem?_toList,Array.getElem?_eq_getElem hi]
  simp only [Option.map_some,Option.some.injEq]
  constructor
  ·intro h
   have h:=congrArg Array.toList h
   simp at h
   rw [h]
  ·intro h
   have:b[i] = x:=UInt8.toNat_inj.mp (Int.ofNat.inj h)
   rw [this]
 have hl:(KBw.bInts b).length = b.size:=KBw.ints_length b
 cases h:(KBw.bInts b).findIdx? (· == (x.toNat:Int)) with
 | none =>
  rw [List.find?_eq_none]
  intro i hi z
  have hi':i < b.size:=List.mem_range.mp hi
  rw [List.findIdx?_eq_none_iff] at h
  have:=(key i hi').mp z
  have:=h _ (List.mem_of_getElem? this)
  simp at this
 | some i =>
  rw [List.findIdx?_eq_some_iff_getElem] at h
  obtain ⟨hi,h1,h2⟩:=h
  rw [List.find?_range_eq_some]
  refine ⟨(key i (hl ▸ hi)).mpr ?_,List.mem_range.mpr (hl ▸ hi),fun j hj => ?_⟩
  ·rw [List.getElem?_eq_getElem hi,beq_iff_eq.mp h1]
  ·have hjl:j < (KBw.bInts b).length:=Nat.lt_trans hj hi
   have:=h2 j hj
   rw [Bool.not_eq_true']
   cases z:(b.extract j (j + (#[x]:Array UInt8).size) == #[x]) with
   | false => rfl
   | true =>
    have q:=(key j (hl ▸ hjl)).mp z
    rw [List.getElem?_eq_getElem hjl] at q
    rw [Option.some.inj q] at this
    simp at this
theorem Zj0 {b:Array UInt8} {x:UInt8} {t u:Tok}:Gives (Builtin.«bytes.find» ⟨[.bytes b t,.bytes #[x] u],[]⟩) (.int (ZaI (KBw.bInts b) x.toNat)):=by
 refine .of_wp fun M A E s Q hq => ?_
 show PySem.wpAny M A (Bytes.searchArgs .bytes "find" _ >>= fun r => _) _ E s
 refine PySem.wpAny_bind ?_
 unfold Bytes.searchArgs
 refine PySem.wpAny_bind (m:=selfAndSome _ "find" 1 3 _) (PySem.wpAny_of_eq (a:=(.bytes b t,[.bytes #[x] u])) (by kernel_rfl) ?_)
 dsimp only
 refine PySem.wpAny_bind (m:=Bytes.bound? _) (PySem.wpAny_of_eq (a:=none) (by kernel_rfl) ?_)
 refine PySem.wpAny_bind (m:=Bytes.bound? _) (PySem.wpAny_of_eq (a:=none) (by kernel_rfl) ?_)
 refine PySem.wpAny_bind (m:=Bytes.buffer? _ _) (PySem.wpAny_of_eq (a:=some #[x]) KBy.buffer_eq ?_)
 dsimp only
 refine PySem.wpAny_bind (PySem.wpAny_pure ?_)
 refine PySem.wpAny_bind (m:=Bytes.payload _) (PySem.wpAny_of_eq (a:=b) (by kernel_rfl) ?_)
 refine PySem.wpAny_pure ?_
 have w1:Bytes.window b.size none none = (0,(b.size:Int)):=by
  simp only [Bytes.window,Option.getD_none]
  rw [if_neg (by omega),if_neg (by omega)]
  simp
 rw [w1]
 dsimp only
 have w2:(if (b.size:Int) - 0 < ((#[x]:Array UInt8).size:Int) then none else some ((0:Int).toNat,(b.size:Int).toNat)).bind (fun (lo,hi) => if false = true then Bytes.rfind? b #[x] lo hi else Bytes.find? b #[x] lo hi) = (KBw.bInts b).findIdx? (· == (x.toNat:Int)):=by
  rw [← ZmS]
  split
  ·rename_i h
   have:b.size = 0:=by
    simp at h;omega
   have:b = #[]:=Array.eq_empty_of_size_eq_zero this
   subst this
   rfl
  ·simp
 rw [w2]
 unfold ZaI at hq
 cases h:(KBw.bInts b).findIdx? (· == (x.toNat:Int)) with
 | none =>
  rw [h] at hq
  exact PySem.wpAny_bind (PySem.wpAny_rule (PySem.wpAny_bind (PySem.wpAny_mkInt (PySem.wpAny_pure ⟨_,rfl,hq⟩))))
 | some i =>
  rw [h] at hq
  exact PySem.wpAny_bind (PySem.wpAny_mkInt (PySem.wpAny_pure ⟨_,rfl,hq⟩))
theorem Zp4 {c:Array UInt8} {x:Int} (h:KBw.bInts c = [x]):∃ y:UInt8,c = #[y] ∧ (y.toNat:Int) = x:=by
 obtain ⟨l⟩:=c
 unfold KBw.bInts at h
 match l,h with
 | [y],h => exact ⟨y,rfl,by simpa using h⟩
theorem ZkN {x:Int}:OpV d (Fn (.builtin "bytes.find")) [.bytes ks,.bytes [x]] σ (.int (ZaI ks x)) σ:=.two fun c ι P s x' y R S r1 r2 Q kQ => by
 obtain ⟨b,t,rfl,rfl⟩:=r1.bytes'
 obtain ⟨b',u,rfl,e⟩:=r2.bytes'
 obtain ⟨y,rfl,rfl⟩:=Zp4 e
 exact up (call_gives Zlt (typeIs_bytes _ _ _) ZjZ (Zlu _ _) Zj0 (Ze S kQ (s.toks + 1) _ .int))
end
end Mine
end
namespace Mine
section
variable {sc:Scope} {d:Nat} {ρ:List (Option V)} {σ σ₁ σ₂ σ₃ σ₄:List AO}
theorem TE.cmp2 {o1 o2:CmpOp} {a b c:ME} {x y z v:V} (h1:TE sc d a ρ σ x σ₁) (h2:TE sc d b ρ σ₁ y σ₂) (h3:OpV d (Cmp o1) [x,y] σ₂ (.bool true) σ₂) (h4:TE sc d c ρ σ₂ z σ₃) (h5:OpV d (Cmp o2) [y,z] σ₃ v σ₄) :
  TE sc d (.cmp a [o1,o2] [b,c]) ρ σ v σ₄:=by
 intro w h₀ A env pe ι P s E F C S Q k
 obtain ⟨_,_,_,rfl,c1,c2⟩:=C
 obtain ⟨_,_,rfl,c2,c3⟩:=c2
 obtain ⟨_,_,rfl,c3,c4⟩:=c3
 cases c4
 refine ZmF (h1 w h₀ A env _ ι P s E F c1 S _ ?_) (Zbf c3)
 intro ι₁ P₁ g₁ t₁ i₁ p₁ S₁ x₁ v₁
 refine h2 w h₀ A env _ ι₁ P₁ _ E F c2 S₁ _ ?_
 intro ι₂ P₂ g₂ t₂ i₂ p₂ S₂ x₂ v₂
 refine h3 (cx w h₀ A env sc ρ E) ι₂ P₂ _ _ F.toRm S₂ (.cons (v₁.mono i₂ p₂) (.cons v₂ .nil)) _ ?_
 intro ι₃ P₃ g₃ t₃ i₃ p₃ S₃ x₃ v₃
 obtain rfl:=v₃.bool'
 refine Zl ?_
 rw [if_pos rfl]
 refine h4 w h₀ A env _ ι₃ P₃ _ E F c3 S₃ _ ?_
 intro ι₄ P₄ g₄ t₄ i₄ p₄ S₄ x₄ v₄
 exact h5 (cx w h₀ A env sc ρ E) ι₄ P₄ _ _ F.toRm S₄ (.cons (v₂.mono (i₃.trans i₄) (p₃.trans p₄)) (.cons v₄ .nil)) _ (((k.up i₁ p₁).up i₂ p₂).up (i₃.trans i₄) (p₃.trans p₄))
theorem TE.cmp2_f {o1 o2:CmpOp} {a b c:ME} {x y:V} (h1:TE sc d a ρ σ x σ₁) (h2:TE sc d b ρ σ₁ y σ₂) (h3:OpV d (Cmp o1) [x,y] σ₂ (.bool false) σ₃) :
  TE sc d (.cmp a [o1,o2] [b,c]) ρ σ (.bool false) σ₃:=by
 intro w h₀ A env pe ι P s E F C S Q k
 obtain ⟨_,_,_,rfl,c1,c2⟩:=C
 obtain ⟨_,_,rfl,c2,c3⟩:=c2
 obtain ⟨_,_,rfl,c3,c4⟩:=c3
 cases c4
 refine ZmF (h1 w h₀ A env _ ι P s E F c1 S _ ?_) (Zbf c3)
 intro ι₁ P₁ g₁ t₁ i₁ p₁ S₁ x₁ v₁
 refine h2 w h₀ A env _ ι₁ P₁ _ E F c2 S₁ _ ?_
 intro ι₂ P₂ g₂ t₂ i₂ p₂ S₂ x₂ v₂
 refine h3 (cx w h₀ A env sc ρ E) ι₂ P₂ _ _ F.toRm S₂ (.cons (v₁.mono i₂ p₂) (.cons v₂ .nil)) _ ?_
 intro ι₃ P₃ g₃ t₃ i₃ p₃ S₃ x₃ v₃
 obtain rfl:=v₃.bool'
 refine Zl ?_
 rw [if_neg (by decide)]
 exact k ι₃ P₃ g₃ t₃ (i₁.trans (i₂.trans i₃)) (p₁.trans (p₂.trans p₃)) S₃ _ .bool
theorem Zgj {M:Model} {A:Around} {E:Value → Shared → Prop} {s:Shared} {env:Env} {l r1 r2:Expr} {o1 o2:CmpOp} {pos:Pos} {whole:Sem Value} {Q:Bool → Shared → Prop}
  (h:wpAny M A (eval l env) (fun a s₁ => wpAny M A (eval r1 env) (fun b s₂ => wpAny M A (compareOp o1 a b) (fun c s₃ => wpAny M A (truthy c)
   (fun t s₄ => if t then wpAny M A (eval r2 env) (fun b' s₅ => wpAny M A (compareOp o2 b b') (fun c' s₆ => wpAny M A (truthy c') Q E s₆) E s₅) E s₄ else Q false s₄) E s₃) E s₂) E s₁) E s)
  (hm:behindInMarks o2 r2 = false):wpAny M A (isTrue (.Compare l [o1,o2] [r1,r2] pos) env whole) Q E s:=by
 rw [arm_isTrue_Compare]
 refine wpAny_bind (wpAny_mono h (fun a s₁ h₁ => ?_) fun _ _ x => x)
 show wpAny M A (testChain pos a [o1,o2] [eval r1 env,markedBehindIn o2 r2 (eval r2 env)]) Q E s₁
 rw [markedBehindIn_of_false hm]
 show wpAny M A (holding [a] (eval r1 env) >>= _) Q E s₁
 refine wpAny_bind (wpAny_holding (wpAny_mono h₁ (fun b s₂ h₂ => ?_) fun _ _ x => x))
 refine wpAny_bind (wpAny_standAt (wpAny_bind (wpAny_holding (wpAny_mono h₂ (fun c s₃ h₃ => ?_) fun _ _ x => x))))
 refine wpAny_bind (wpAny_release (wpAny_bind (wpAny_holding (wpAny_mono h₃ (fun t s₄ h₄ => ?_) fun _ _ x => x))))
 cases t with
 | false => exact wpAny_pure h₄
 | true =>
  rw [if_pos rfl] at h₄
  show wpAny M A (holding [b] (eval r2 env) >>= _) Q E s₄
  refine wpAny_bind (wpAny_holding (wpAny_mono h₄ (fun b' s₅ h₅ => ?_) fun _ _ x => x))
  exact wpAny_bind (wpAny_standAt (wpAny_bind (Z6 (wpAny_mono h₅ (fun _ _ h => wpAny_holding h) fun _ _ x => x))))
theorem TB.cmp2 {o1 o2:CmpOp} {a b c:ME} {x y z:V} {r:Bool} (h1:TE sc d a ρ σ x σ₁) (h2:TE sc d b ρ σ₁ y σ₂) (h3:OpV d (Cmp o1) [x,y] σ₂ (.bool true) σ₂) (h4:TE sc d c ρ σ₂ z σ₃) (h5:OpV d (Cmp o2) [y,z] σ₃ (.bool r) σ₄) :
  TB sc d (.cmp a [o1,o2] [b,c]) ρ σ r σ₄:=by
 intro w h₀ A env pe ι P s E F C S Q k
 obtain ⟨_,_,_,rfl,c1,c2⟩:=C
 obtain ⟨_,_,rfl,c2,c3⟩:=c2
 obtain ⟨_,_,rfl,c3,c4⟩:=c3
 cases c4
 refine Zgj (h1 w h₀ A env _ ι P s E F c1 S _ ?_) (Zbf c3)
 intro ι₁ P₁ g₁ t₁ i₁ p₁ S₁ x₁ v₁
 refine h2 w h₀ A env _ ι₁ P₁ _ E F c2 S₁ _ ?_
 intro ι₂ P₂ g₂ t₂ i₂ p₂ S₂ x₂ v₂
 refine h3 (cx w h₀ A env sc ρ E) ι₂ P₂ _ _ F.toRm S₂ (.cons (v₁.mono i₂ p₂) (.cons v₂ .nil)) _ ?_
 intro ι₃ P₃ g₃ t₃ i₃ p₃ S₃ x₃ v₃
 obtain rfl:=v₃.bool'
 refine Zl ?_
 rw [if_pos rfl]
 refine h4 w h₀ A env _ ι₃ P₃ _ E F c3 S₃ _ ?_
 intro ι₄ P₄ g₄ t₄ i₄ p₄ S₄ x₄ v₄
 refine h5 (cx w h₀ A env sc ρ E) ι₄ P₄ _ _ F.toRm S₄ (.cons (v₂.mono (i₃.trans i₄) (p₃.trans p₄)) (.cons v₄ .nil)) _ ?_
 intro ι₅ P₅ g₅ t₅ i₅ p₅ S₅ x₅ v₅
 obtain rfl:=v₅.bool'
 exact Zl (k ι₅ P₅ g₅ t₅ (i₁.trans (i₂.trans (i₃.trans (i₄.trans i₅)))) (p₁.trans (p₂.trans (p₃.trans (p₄.trans p₅)))) S₅)
theorem TB.cmp2_f {o1 o2:CmpOp} {a b c:ME} {x y:V} (h1:TE sc d a ρ σ x σ₁) (h2:TE sc d b ρ σ₁ y σ₂) (h3:OpV d (Cmp o1) [x,y] σ₂ (.bool false) σ₃) :
  TB sc d (.cmp a [o1,o2] [b,c]) ρ σ false σ₃:=by
 intro w h₀ A env pe ι P s E F C S Q k
 obtain ⟨_,_,_,rfl,c1,c2⟩:=C
 obtain ⟨_,_,rfl,c2,c3⟩:=c2
 obtain ⟨_,_,rfl,c3,c4⟩:=c3
 cases c4
 refine Zgj (h1 w h₀ A env _ ι P s E F c1 S _ ?_) (Zbf c3)
 intro ι₁ P₁ g₁ t₁ i₁ p₁ S₁ x₁ v₁
 refine h2 w h₀ A env _ ι₁ P₁ _ E F c2 S₁ _ ?_
 intro ι₂ P₂ g₂ t₂ i₂ p₂ S₂ x₂ v₂
 refine h3 (cx w h₀ A env sc ρ E) ι₂ P₂ _ _ F.toRm S₂ (.cons (v₁.mono i₂ p₂) (.cons v₂ .nil)) _ ?_
 intro ι₃ P₃ g₃ t₃ i₃ p₃ S₃ x₃ v₃
 obtain rfl:=v₃.bool'
 refine Zl ?_
 rw [if_neg (by decide)]
 exact k ι₃ P₃ g₃ t₃ (i₁.trans (i₂.trans i₃)) (p₁.trans (p₂.trans p₃)) S₃
noncomputable def Ze8 (m:ME):Bool:=match Ze4 m with
 | 4 | 6 | 7 | 8 => false
 | _ => true
theorem Zia {pe:Expr} {e:ME} {env:Env} {whole:Sem Value} (C:CE sc pe e) (hp:Ze8 e = true):isTrue pe env whole = (do let v ← whole;standAt pe.pos;holding [v] (truthy v)):=by
 have h:=C.dull
 unfold Ze8 at hp
 rw [← C.shape] at hp
 cases pe with
 | UnaryOp op x p => cases op <;> first | rfl | cases hp
 | _ => first | rfl | exact absurd h (Nat.lt_irrefl 0) | cases hp
theorem TB.val {e:ME} {b:Bool} (h1:TE sc d e ρ σ (.bool b) σ₁) (hp:Ze8 e = true:=by rfl):TB sc d e ρ σ b σ₁:=by
 intro w h₀ A env pe ι P s E F C S Q k
 refine Zd8 (h1 w h₀ A env _ ι P s E F C S _ ?_) (Zia C hp)
 intro ι₁ P₁ g₁ t₁ i₁ p₁ S₁ x₁ v₁
 obtain rfl:=v₁.bool'
 exact Zl (k ι₁ P₁ g₁ t₁ i₁ p₁ S₁)
theorem TB.not {e:ME} {b:Bool} (h1:TB sc d e ρ σ b σ₁):TB sc d (.un .Not e) ρ σ (!b) σ₁:=by
 intro w h₀ A env pe ι P s E F C S Q k
 obtain ⟨_,_,rfl,c1⟩:=C
 refine Ze3 (h1 w h₀ A env _ ι P s E F c1 S _ ?_)
 intro ι₁ P₁ g₁ t₁ i₁ p₁ S₁
 exact k ι₁ P₁ g₁ t₁ i₁ p₁ S₁
theorem TB.bool {op:BoolOp} {es:List ME} {b:Bool} (h1:TBs sc d op es ρ σ b σ₁):TB sc d (.bool op es) ρ σ b σ₁:=by
 intro w h₀ A env pe ι P s E F C S Q k
 obtain ⟨_,_,rfl,c1⟩:=C
 exact ZdP (h1 w h₀ A env _ ι P s E F c1 S _ k)
theorem TBs.and_nil:TBs sc d .And [] ρ σ true σ:=by
 intro w h₀ A env pe ι P s E F C S Q k
 cases C
 exact wpAny_allTrue_And_nil (Ze S k s.toks)
theorem TBs.or_nil:TBs sc d .Or [] ρ σ false σ:=by
 intro w h₀ A env pe ι P s E F C S Q k
 cases C
 exact wpAny_allTrue_Or_nil (Ze S k s.toks)
theorem TBs.and_f {e:ME} {es:List ME} (h1:TB sc d e ρ σ false σ₁):TBs sc d .And (e :: es) ρ σ false σ₁:=by
 intro w h₀ A env pe ι P s E F C S Q k
 obtain ⟨_,_,rfl,c1,c2⟩:=C
 refine ZaX (h1 w h₀ A env _ ι P s E F c1 S _ ?_)
 intro ι₁ P₁ g₁ t₁ i₁ p₁ S₁
 rw [if_neg (by decide)]
 exact k ι₁ P₁ g₁ t₁ i₁ p₁ S₁
theorem TBs.and_t {e:ME} {es:List ME} {b:Bool} (h1:TB sc d e ρ σ true σ₁) (h2:TBs sc d .And es ρ σ₁ b σ₂):TBs sc d .And (e :: es) ρ σ b σ₂:=by
 intro w h₀ A env pe ι P s E F C S Q k
 obtain ⟨_,_,rfl,c1,c2⟩:=C
 refine ZaX (h1 w h₀ A env _ ι P s E F c1 S _ ?_)
 intro ι₁ P₁ g₁ t₁ i₁ p₁ S₁
 rw [if_pos rfl]
 exact h2 w h₀ A env _ ι₁ P₁ _ E F c2 S₁ _ (k.up i₁ p₁)
theorem TBs.or_t {e:ME} {es:List ME} (h1:TB sc d e ρ σ true σ₁):TBs sc d .Or (e :: es) ρ σ true σ₁:=by
 intro w h₀ A env pe ι P s E F C S Q k
 obtain ⟨_,_,rfl,c1,c2⟩:=C
 refine Za8 (h1 w h₀ A env _ ι P s E F c1 S _ ?_)
 intro ι₁ P₁ g₁ t₁ i₁ p₁ S₁
 rw [if_pos rfl]
 exact k ι₁ P₁ g₁ t₁ i₁ p₁ S₁
theorem TBs.or_f {e:ME} {es:List ME} {b:Bool} (h1:TB sc d e ρ σ false σ₁) (h2:TBs sc d .Or es ρ σ₁ b σ₂):TBs sc d .Or (e :: es) ρ σ b σ₂:=by
 intro w h₀ A env pe ι P s E F C S Q k
 obtain ⟨_,_,rfl,c1,c2⟩:=C
 refine Za8 (h1 w h₀ A env _ ι P s E F c1 S _ ?_)
 intro ι₁ P₁ g₁ t₁ i₁ p₁ S₁
 rw [if_neg (by decide)]
 exact h2 w h₀ A env _ ι₁ P₁ _ E F c2 S₁ _ (k.up i₁ p₁)
noncomputable def TVs (sc:Scope) (d:Nat) (op:BoolOp) (e:List ME) (ρ:List (Option V)) (σ:List AO) (v:V) (σ':List AO):Prop :=
 ∀ w h₀ A env pe ι P s E pos,Fx w h₀ A env sc d → CEs sc pe e → St h₀ env.locals (Zs sc) ρ ι P σ s.heap → Zf6 (cx w h₀ A env sc ρ E) (boolOp pos op (evalEach pe env)) ι P v σ' s
theorem TVs.one {op:BoolOp} {e:ME} {v:V} (h1:TE sc d e ρ σ v σ₁):TVs sc d op [e] ρ σ v σ₁:=by
 intro w h₀ A env pe ι P s E pos F C S Q k
 obtain ⟨_,_,rfl,c1,c2⟩:=C
 cases c2
 exact h1 w h₀ A env _ ι P s E F c1 S _ k
noncomputable def ZmT:BoolOp → Bool → Bool
 | .And,b => b
 | .Or,b => !b
theorem TVs.go {op:BoolOp} {e e':ME} {es:List ME} {b:Bool} {v:V} (h1:TE sc d e ρ σ (.bool b) σ₁) (hb:ZmT op b = true) (h2:TVs sc d op (e' :: es) ρ σ₁ v σ₂):TVs sc d op (e :: e' :: es) ρ σ v σ₂:=by
 intro w h₀ A env pe ι P s E pos F C S Q k
 obtain ⟨_,_,rfl,c1,c2⟩:=C
 obtain ⟨_,_,rfl,c2,c3⟩:=c2
 show wpAny _ _ (eval _ env >>= _) _ _ _
 refine wpAny_bind (h1 w h₀ A env _ ι P s E F c1 S _ ?_)
 intro ι₁ P₁ g₁ t₁ i₁ p₁ S₁ x₁ v₁
 obtain rfl:=v₁.bool'
 refine wpAny_bind (wpAny_standAt (wpAny_bind (wpAny_holding (Zl ?_))))
 have:=h2 w h₀ A env _ ι₁ P₁ { s with heap:=g₁,toks:=t₁ } E pos F ⟨_,_,rfl,c2,c3⟩ S₁ Q (k.up i₁ p₁)
 cases op <;> cases b
 case And.false => exact nomatch hb
 case And.true => exact this
 case Or.false => exact this
 case Or.true => exact nomatch hb
theorem TVs.stop {op:BoolOp} {e e':ME} {es:List ME} {b:Bool} (h1:TE sc d e ρ σ (.bool b) σ₁) (hb:ZmT op b = false):TVs sc d op (e :: e' :: es) ρ σ (.bool b) σ₁:=by
 intro w h₀ A env pe ι P s E pos F C S Q k
 obtain ⟨_,_,rfl,c1,c2⟩:=C
 obtain ⟨_,_,rfl,c2,c3⟩:=c2
 show wpAny _ _ (eval _ env >>= _) _ _ _
 refine wpAny_bind (h1 w h₀ A env _ ι P s E F c1 S _ ?_)
 intro ι₁ P₁ g₁ t₁ i₁ p₁ S₁ x₁ v₁
 obtain rfl:=v₁.bool'
 refine wpAny_bind (wpAny_standAt (wpAny_bind (wpAny_holding (Zl ?_))))
 have:=k ι₁ P₁ g₁ t₁ i₁ p₁ S₁ _ .bool
 cases op <;> cases b
 case And.false => exact wpAny_pure this
 case And.true => exact nomatch hb
 case Or.false => exact nomatch hb
 case Or.true => exact wpAny_pure this
theorem TE.bool {op:BoolOp} {es:List ME} {v:V} (h1:TVs sc d op es ρ σ v σ₁):TE sc d (.bool op es) ρ σ v σ₁:=by
 intro w h₀ A env pe ι P s E F C S Q k
 obtain ⟨_,_,rfl,c1⟩:=C
 exact h1 w h₀ A env _ ι P s E _ F c1 S _ k
theorem ZcJ {M:Model} {A:Around} {E:Value → Shared → Prop} {s:Shared} {f:Value} {pos:Pos} {env:Env} {pe:List Expr} {e:List ME} {Q:Args → Shared → Prop} (C:CEs sc pe e)
  (h:wpAny M A (spliced (backTo pos (starEach pe env))) (fun vs s' => Q ⟨vs,[]⟩ s') E s):wpAny M A (evalArgs f true (backTo pos (starEach pe env)) []) Q E s:=by
 cases e with
 | nil =>
  cases C
  unfold evalArgs
  refine wpAny_bind (wpAny_mono h (fun vs s' h' => ?_) fun _ _ x => x)
  refine wpAny_bind (wpAny_pure ?_)
  refine wpAny_holding ?_
  exact wpAny_bind (wpAny_pure (wpAny_bind (wpAny_pure (wpAny_pure h'))))
 | cons =>
  obtain ⟨_,_,rfl,c1,c2⟩:=C
  rw [Zce c1] at h ⊢
  unfold evalArgs
  show wpAny M A (spliced (backTo pos ((false,eval _ env) :: starEach _ env)) >>= _) Q E s
  refine wpAny_bind (wpAny_mono h (fun vs s' h' => ?_) fun _ _ x => x)
  refine wpAny_holding ?_
  exact wpAny_bind (wpAny_pure (wpAny_bind (wpAny_pure (wpAny_pure h'))))
theorem noStar {pos:Pos} {env:Env} {pe:List Expr} {e:List ME} (C:CEs sc pe e):(backTo pos (starEach pe env)).any (·.1) = false ∧ (backTo pos (starEach pe env)).length = pe.length:=by
 induction e generalizing pe with
 | nil => cases C;exact ⟨rfl,rfl⟩
 | cons _ _ ih =>
  obtain ⟨_,_,rfl,c1,c2⟩:=C
  rw [Zce c1]
  exact ⟨by simpa [backTo] using (ih c2).1,by simpa [backTo] using (ih c2).2⟩
theorem ZL {M:Model} {A:Around} {E:Value → Shared → Prop} {s:Shared} {f:Value} {kk:Keeper} {first:List Value} {pos:Pos} {env:Env} {pe:List Expr} {e:List ME} {h:Heap} {Q:Value → Shared → Prop} (C:CEs sc pe e) (hl:pe.length < 20)
  (hk:Looks M h (keeperOf f) kk) (hkk:kk = .frame ∨ kk = .machine)
  (hh:wpAny M A (spliced (backTo pos (starEach pe env))) (fun vs s' => (∀ b o,h.get? b = some o → s'.heap.get? b = some o) ∧ wpAny M A (call f (first ++ vs)) Q E s') E s):wpAny M A (callWith pos f first (backTo pos (starEach pe env)) []) Q E s:=by
 obtain ⟨n1,n2⟩:=noStar (pos:=pos) (env:=env) C
 unfold callWith
 refine wpAny_bind (wpAny_holding (ZcJ C (wpAny_mono hh (fun vs s₁ h₁ => wpAny_bind (wpAny_standAt ?_)) fun _ _ x => x)))
 have tail:∀ {t:Sem Value},wpAny M A t Q E s₁ → wpAny M A (t >>= fun r => holding [r] point >>= fun _ => pure r) Q E s₁ :=
  fun ht => wpAny_bind (wpAny_mono ht (fun r s₂ hr => wpAny_bind (wpAny_holding (Zdc (wpAny_pure hr)))) fun _ _ x => x)
 rw [n1]
 refine wpAny_bind (up (hk A _ E s₁ h₁.1 ?_))
 rcases hkk with rfl | rfl
 ·dsimp only
  rw [if_neg (by rw [n2];simp only [List.length_nil];omega)]
  exact tail (fun Γ p hΓ hc => by rw [callMarked,Sem.wp_keep];exact h₁.2 Γ p hΓ hc)
 ·exact tail h₁.2
end
noncomputable def ZN (o:Obj):Prop:=match o.data with
 | .seq .. => False
 | _ => True
noncomputable def thaw (P:Z2) (a:Addr):Z2:=fun b => if b = a then none else P b
theorem Zgk {P:Z2} {a:Addr} {o:Obj} (ha:P a = some o) (ho:ZN o) (b:Addr) (c:Value) (items:Array Value) (n:Nat) (h:P b = some { cls:=c,data:=.seq items n }):thaw P a b = some { cls:=c,data:=.seq items n }:=by
 unfold thaw
 rw [if_neg]
 ·exact h
 ·intro q;subst q;rw [ha] at h;cases h;exact ho
theorem VR.thaw {ι:Ix} {P:Z2} {a:Addr} {o:Obj} (ha:P a = some o) (ho:ZN o) {v:V} {x:Value} (h:VR ι P v x):VR ι (thaw P a) v x:=h.imp (Zgk ha ho) fun _ _ _ e => e
theorem VRs.thaw {ι:Ix} {P:Z2} {a:Addr} {o:Obj} (ha:P a = some o) (ho:ZN o) {v:List V} {x:List Value} (h:VRs ι P v x):VRs ι (thaw P a) v x:=h.imp (Zgk ha ho) fun _ _ _ e => e
theorem FRs.thaw {ι:Ix} {P:Z2} {a:Addr} {o:Obj} (ha:P a = some o) (ho:ZN o) {fs:List (Nat × V)} {es:List DictEntry} (h:FRs ι P fs es):FRs ι (thaw P a) fs es:=h.imp (Zgk ha ho) fun _ _ _ e => e
theorem AOR.thaw {ι:Ix} {P:Z2} {a:Addr} {o:Obj} (ha:P a = some o) (ho:ZN o) {h:Heap} {ao:AO} {x y:Addr} (r:AOR ι P h ao x y):AOR ι (thaw P a) h ao x y:=by
 cases ao with
 | list vs => obtain ⟨e1,items,n,e2,e3⟩:=r;exact ⟨e1,items,n,e2,e3.thaw ha ho⟩
 | barr ks => exact r
 | inst C fs => obtain ⟨e1,es,n,e2,e3⟩:=r;exact ⟨e1,es,n,e2,e3.thaw ha ho⟩
 | dictB => exact r
 | rng => exact r
theorem Zoq {P:Z2} {a:Addr}:FrzLe (thaw P a) P:=fun b o e => by
 unfold thaw at e
 split at e
 ·cases e
 ·exact e
theorem ZeC {P Q:Z2} {a:Addr} (h:FrzLe P Q) (ha:P a = none):FrzLe P (thaw Q a):=fun b o e => by
 unfold thaw
 rw [if_neg]
 ·exact h _ _ e
 ·intro q;subst q;rw [ha] at e;cases e
section
variable {h₀:Heap} {L:Addr} {N:List Str} {ρ:List (Option V)} {ι:Ix} {P:Z2} {σ:List AO} {h:Heap}
theorem St.thaw (S:St h₀ L N ρ ι P σ h) {a:Addr} {o:Obj} (ha:P a = some o) (ho:ZN o) (h0:h₀.get? a = none):St h₀ L N ρ ι (thaw P a) σ h:=by
 obtain ⟨m,hm,hv⟩:=S.ns
 refine ⟨fun b x e => ?_,fun b x e => S.keep b x (Zoq b x e),⟨m,hm,fun i n v e1 e2 => ?_⟩,S.len,fun k ao x y e1 e2 => (S.objs k ao x y e1 e2).thaw ha ho,?_,fun k x y e => ?_,S.sep.apart⟩
 ·show (if b = a then none else P b) = _
  rw [if_neg]
  ·exact S.base b x e
  ·intro q;subst q;rw [h0] at e;cases e
 ·obtain ⟨x,hx,hr⟩:=hv i n v e1 e2
  exact ⟨x,hx,hr.thaw ha ho⟩
 ·show (if L = a then none else P L) = _
  split
  ·rfl
  ·exact S.sep.PL
 ·obtain ⟨q1,q2,q3,q4⟩:=S.sep.off k x y e
  refine ⟨?_,?_,q3,q4⟩
  ·show (if x = a then none else P x) = _
   split
   ·rfl
   ·exact q1
  ·show (if y = a then none else P y) = _
   split
   ·rfl
   ·exact q2
theorem St.freezeAt (S:St h₀ L N ρ ι P σ h) {a:Addr} {o:Obj} (ho:h.get? a = some o) (hP:P a = none) (hL:a ≠ L) (hi:∀ (k:Nat) (x y:Addr),ι[k]? = some (x,y) → a ≠ x ∧ a ≠ y):St h₀ L N ρ ι (frz P a o) σ h ∧ FrzLe P (frz P a o):=by
 have le:FrzLe P (frz P a o):=fun b x e => by
  unfold frz
  rw [if_neg]
  ·exact e
  ·intro q;subst q;rw [hP] at e;cases e
 obtain ⟨m,hm,hv⟩:=S.ns
 refine ⟨⟨fun b x e => le _ _ (S.base b x e),fun b x e => ?_,⟨m,hm,fun i n v e1 e2 => ?_⟩,S.len,fun k ao x y e1 e2 => (S.objs k ao x y e1 e2).same (List.prefix_refl _) le (fun _ e => e) (fun _ e => e),?_,fun k x y e => ?_,S.sep.apart⟩,le⟩
 ·unfold frz at e
  split at e
  ·rename_i q;subst q;cases e;exact ho
  ·exact S.keep _ _ e
 ·obtain ⟨x,hx,hr⟩:=hv i n v e1 e2
  exact ⟨x,hx,hr.mono (List.prefix_refl _) le⟩
 ·show (if L = a then _ else P L) = _
  rw [if_neg (Ne.symm hL)];exact S.sep.PL
 ·obtain ⟨q1,q2,q3,q4⟩:=S.sep.off k x y e
  obtain ⟨z1,z2⟩:=hi k x y e
  refine ⟨?_,?_,q3,q4⟩
  ·show (if x = a then _ else P x) = _
   rw [if_neg (Ne.symm z1)];exact q1
  ·show (if y = a then _ else P y) = _
   rw [if_neg (Ne.symm z2)];exact q2
theorem St.ext' (S:St h₀ L N ρ ι P σ h) {h':Heap} {I:Addr} (k:∀ b o,b ≠ I → h.get? b = some o → h'.get? b = some o) (hP:P I = none) (hL:I ≠ L) (hi:∀ (k:Nat) (x y:Addr),ι[k]? = some (x,y) → I ≠ x ∧ I ≠ y):St h₀ L N ρ ι P σ h':=by
 obtain ⟨m,hm,hv⟩:=S.ns
 refine ⟨S.base,fun b o e => k b o (fun q => by subst q;rw [hP] at e;cases e) (S.keep b o e),⟨m,?_,hv⟩,S.len,fun j ao a d e1 e2 => ?_,S.sep⟩
 ·obtain ⟨oL,es,ep,hL',r⟩:=hm
  exact ⟨oL,es,ep,k _ _ (Ne.symm hL) hL',r⟩
 ·obtain ⟨z1,z2⟩:=hi j a d e2
  exact (S.objs j ao a d e1 e2).same (List.prefix_refl _) (.refl _) (fun o e => k _ _ (Ne.symm z1) e) fun o e => k _ _ (Ne.symm z2) e
end
structure Yields (w:World) (h₀:Heap) (A:Around) (I:Addr) (src:Ix → Z2 → List AO → Prop) (J:Nat → Obj → Prop) (vs:List V):Prop where
 plain:∀ i o,J i o → ZN o
 self:∀ {i:Nat} {o:Obj} {s:Shared} {Q:Value → Shared → Prop} {E:Value → Shared → Prop},s.heap.get? I = some o → J i o → Q (.ref I) s → wpAny (model pw w) A (pyIter (.ref I)) Q E s
 item:∀ {L N ρ ι P σ} {s:Shared} {i:Nat} {v:V} {Q:Option Value → Shared → Prop} {E:Value → Shared → Prop} {o:Obj},src ι P σ → St h₀ L N ρ ι P σ s.heap → s.heap.get? I = some o → J i o → vs[i]? = some v →
  (∀ x h' tk o',VR ι P v x → h'.get? I = some o' → J (i + 1) o' → (∀ b o,b ≠ I → s.heap.get? b = some o → h'.get? b = some o) → Q (some x) { s with heap:=h',toks:=tk }) → wpAny (model pw w) A (pyNext (.ref I)) Q E s
 done:∀ {L N ρ ι P σ} {s:Shared} {i:Nat} {Q:Option Value → Shared → Prop} {E:Value → Shared → Prop} {o:Obj},src ι P σ → St h₀ L N ρ ι P σ s.heap → s.heap.get? I = some o → J i o → vs[i]? = none →
  (∀ h' tk,(∀ b o,b ≠ I → s.heap.get? b = some o → h'.get? b = some o) → Q none { s with heap:=h',toks:=tk }) → wpAny (model pw w) A (pyNext (.ref I)) Q E s
noncomputable def Lp (sc:Scope) (d:Nat) (K:List AO → Prop) (t:MT) (b:List MS):List V → List (Option V) → List AO → Out → List AO → Prop
 | [],ρ,σ,o,σ₃ => o = .next ρ ∧ σ = σ₃
 | v :: vs,ρ,σ,o,σ₃ => (∃ ρ₁ σ₁ ρ₂ σ₂,TA sc d t v ρ σ ρ₁ σ₁ ∧ TSs sc d b ρ₁ σ₁ (.next ρ₂) σ₂ ∧ K σ₂ ∧ Lp sc d K t b vs ρ₂ σ₂ o σ₃) ∨ (∃ ρ₁ σ₁ r,TA sc d t v ρ σ ρ₁ σ₁ ∧ TSs sc d b ρ₁ σ₁ (.ret r) σ₃ ∧ o = .ret r) ∨
   (∃ ρ₁ σ₁ ρ₂,TA sc d t v ρ σ ρ₁ σ₁ ∧ TSs sc d b ρ₁ σ₁ (.brk ρ₂) σ₃ ∧ o = .next ρ₂)
section
variable {sc:Scope} {d:Nat} {K:List AO → Prop} {t:MT} {b:List MS} {v:V} {vs:List V} {ρ ρ₁ ρ₂:List (Option V)} {σ σ₁ σ₂ σ₃:List AO} {o:Out}
theorem Lp.nil:Lp sc d K t b [] ρ σ (.next ρ) σ:=⟨rfl,rfl⟩
theorem Lp.cons (a1:TA sc d t v ρ σ ρ₁ σ₁) (a2:TSs sc d b ρ₁ σ₁ (.next ρ₂) σ₂) (a3:K σ₂) (a4:Lp sc d K t b vs ρ₂ σ₂ o σ₃):Lp sc d K t b (v :: vs) ρ σ o σ₃:=.inl ⟨_,_,_,_,a1,a2,a3,a4⟩
theorem Lp.ret {r:V} (a1:TA sc d t v ρ σ ρ₁ σ₁) (a2:TSs sc d b ρ₁ σ₁ (.ret r) σ₂):Lp sc d K t b (v :: vs) ρ σ (.ret r) σ₂:=.inr (.inl ⟨_,_,_,a1,a2,rfl⟩)
theorem Lp.brk (a1:TA sc d t v ρ σ ρ₁ σ₁) (a2:TSs sc d b ρ₁ σ₁ (.brk ρ₂) σ₂):Lp sc d K t b (v :: vs) ρ σ (.next ρ₂) σ₂:=.inr (.inr ⟨_,_,_,a1,a2,rfl⟩)
end
noncomputable def ZeD (d:Nat) (u:V) (σ:List AO) (K:List AO → Prop) (vs:List V):Prop :=
 ∀ (c:Cx) ι P s x (Q:Value → Shared → Prop),Rm c.w c.h₀ c.A d → c.St ι P σ s.heap → VR ι P u x →
  (∀ h' tk src J o,(∀ b o,s.heap.get? b = some o → h'.get? b = some o) → h'.get? s.heap.objs.size = some o → J 0 o → Yields c.w c.h₀ c.A s.heap.objs.size src J vs → src ι P σ →
   (∀ ι' P' σ',ι <+: ι' → FrzLe P P' → K σ' → src ι' P' σ') → Q (.ref s.heap.objs.size) { s with heap:=h',toks:=tk }) → wpAny (model pw c.w) c.A (pyIter x) Q c.E s
section
variable {sc:Scope} {d:Nat} {ρ ρ₁ ρ₂ ρ₃:List (Option V)} {σ σ₁ σ₂ σ₃:List AO} {o:Out}
theorem ZdG {env:Env} {pe:Expr} {e:ME} (C:CE sc pe e) (x:Value):foldedSetIterable pe env x = pure x:=by
 have h:=C.dull
 cases pe <;> first | rfl | exact absurd h (Nat.lt_irrefl 0)
theorem ZmU {pt:Expr} {t:MT} {it v:Value} (D:CT sc pt t) (h:Zh6 t = false):letOwnedTupleGo pt it v = pure ():=by
 cases t with
 | loc => obtain ⟨_,_,rfl,_⟩:=D;rfl
 | attr => obtain ⟨_,_,_,_,rfl,_⟩:=D;rfl
 | sub => obtain ⟨_,_,_,rfl,_⟩:=D;rfl
 | tup => cases h
inductive ForInv (h₀:Heap) (L:Addr) (sc:Scope) (d:Nat) (K:List AO → Prop) (t:MT) (b:List MS) (o:Out) (σ₂:List AO) (s:Shared) (ι₁:Ix) (P₁:Z2) (I:Addr) (src:Ix → Z2 → List AO → Prop) (J:Nat → Obj → Prop) (vs:List V) (n:Nat) (s':Shared):Prop
 | mk (i:Nat) (vs':List V) (ρ':List (Option V)) (σ':List AO) (ι':Ix) (P':Z2) (h':Heap) (tk:Nat) (o':Obj) (hs:s' = { s with heap:=h',toks:=tk }) (hi:ι₁ <+: ι') (hp:FrzLe P₁ P') (S:St h₀ L (Zs sc) ρ' ι' P' σ' h') (hP:P' I = none)
  (hx:∀ (k:Nat) (x y:Addr),ι'[k]? = some (x,y) → I ≠ x ∧ I ≠ y) (hI:h'.get? I = some o') (hJ:J i o') (hr:src ι' P' σ') (hd:vs.drop i = vs') (hn:n = vs'.length) (W:Lp sc d K t b vs' ρ' σ' o σ₂)
theorem TS.for {K:List AO → Prop} {t:MT} {e:ME} {b:List MS} {u:V} {vs:List V} (h1:TE sc d e ρ σ u σ₁) (h2:ZeD d u σ₁ K vs) (h3:Lp sc d K t b vs ρ σ₁ o σ₂) (hT:Zh6 t = false:=by rfl):TS sc d (.for t e b) ρ σ o σ₂:=by
 intro w h₀ A env pe ι P s E F C S Q k
 obtain ⟨_,_,_,_,rfl,ct,ce,cb⟩:=C
 refine Zhu (h1 w h₀ A env _ ι P s E F ce S _ ?_) (ZdG ce)
 intro ι₁ P₁ g₁ t₁ i₁ p₁ S₁ x hx
 refine h2 (cx w h₀ A env sc ρ E) ι₁ P₁ { s with heap:=g₁,toks:=t₁ } x _ F.toRm S₁ hx ?_
 intro g₂ t₂ src J o₀ k₂ hI hJ Y hsrc hK
 have hI0:g₁.get? g₁.objs.size = none:=Heap.get?_none_of_le (Nat.le_refl _)
 have hP0:P₁ g₁.objs.size = none:=S₁.freshP
 have hLne:g₁.objs.size ≠ env.locals:=(Nat.ne_of_lt S₁.ltL).symm
 have hx0:∀ (k:Nat) (x y:Addr),ι₁[k]? = some (x,y) → g₁.objs.size ≠ x ∧ g₁.objs.size ≠ y:=fun k x y e => ⟨(Nat.ne_of_lt (S₁.freshI e).1).symm,(Nat.ne_of_lt (S₁.freshI e).2).symm⟩
 generalize g₁.objs.size = I at hI hP0 hLne hx0 hI0 Y ⊢
 refine ZfG (ForInv h₀ env.locals sc d K t b o σ₂ s ι₁ P₁ I src J vs) ?_ vs.length
  ⟨0,vs,ρ,σ₁,ι₁,P₁,g₂,t₂,o₀,rfl,List.prefix_refl _,.refl _,S₁.ext k₂,hP0,hx0,hI,hJ,hsrc,rfl,rfl,h3⟩ ?_
 ·rintro n s' ⟨i,vs',ρ',σ',ι',P',h',tk,o',rfl,i',p',S',hPI,hxI,hI',hJ',hsrc',hd,rfl,W⟩
  cases vs' with
  | nil =>
   have hn:vs[i]? = none:=by
    rw [List.drop_eq_nil_iff] at hd
    exact List.getElem?_eq_none hd
   refine Y.done (s:={ s with heap:=h',toks:=tk }) hsrc' S' hI' hJ' hn ?_
   intro h'' tk'' k''
   obtain ⟨e,rfl⟩:=W
   exact wpAny_execs_nil (k.next e ι' P' h'' tk'' (i₁.trans i') (p₁.trans p') (S'.ext' k'' hPI hLne hxI))
  | cons v vs'' =>
   have hn:vs[i]? = some v:=by
    have:(vs.drop i)[0]? = some v:=by rw [hd];rfl
    rwa [List.getElem?_drop,Nat.add_zero] at this
   have hd':vs.drop (i + 1) = vs'':=by
    have:(vs.drop i).drop 1 = vs'':=by rw [hd];rfl
    rwa [List.drop_drop] at this
   refine Y.item (s:={ s with heap:=h',toks:=tk }) hsrc' S' hI' hJ' hn ?_
   intro xv h'' tk'' o'' hxv hI'' hJ'' k''
   have S'':=S'.ext' k'' hPI hLne hxI
   obtain ⟨S3,le3⟩:=S''.freezeAt hI'' hPI hLne hxI
   have fz:frz P' I o'' I = some o'':=if_pos rfl
   have back:∀ {ι₄:Ix} {P₄:Z2} {ρ₄ σ₄ g₄},ι' <+: ι₄ → FrzLe (frz P' I o'') P₄ → St h₀ env.locals (Zs sc) ρ₄ ι₄ P₄ σ₄ g₄ →
     FrzLe P' (thaw P₄ I) ∧ St h₀ env.locals (Zs sc) ρ₄ ι₄ (thaw P₄ I) σ₄ g₄ ∧ P₄ I = some o'' ∧ g₄.get? I = some o'':=fun {ι₄ P₄ ρ₄ σ₄ g₄} j1 j2 j3 => by
    have e4:P₄ I = some o'':=j2 _ _ fz
    refine ⟨ZeC (le3.trans j2) hPI,j3.thaw e4 (Y.plain _ _ hJ'') ?_,e4,j3.keep _ _ e4⟩
    exact Zax S'.base hPI
   have sepI:∀ {ι₄:Ix} {P₄:Z2} {ρ₄ σ₄ g₄},FrzLe (frz P' I o'') P₄ → St h₀ env.locals (Zs sc) ρ₄ ι₄ P₄ σ₄ g₄ → ∀ (k:Nat) (x y:Addr),ι₄[k]? = some (x,y) → I ≠ x ∧ I ≠ y:=fun {ι₄ P₄ ρ₄ σ₄ g₄} j2 j3 k x y e => by
    have e4:P₄ I = some o'':=j2 _ _ fz
    obtain ⟨z1,z2,_⟩:=j3.sep.off k x y e
    exact ⟨(by first | exact Zr e4 z1 | exact (Zr z1 e4).symm | exact fun q => by rw [q,z1] at e4;cases e4),(by first | exact Zr e4 z2 | exact (Zr z2 e4).symm | exact fun q => by rw [q,z2] at e4;cases e4)⟩
   rcases W with W | W | W
   ·obtain ⟨_,_,_,_,a1,a2,a3,a4⟩:=W
    refine a1 w h₀ A env _ ι' _ { s with heap:=h'',toks:=tk'' } (notedBy (model pw w) A env fun e s' => cameBackBy (model pw w) A env E e s') xv F ct S3 (hxv.mono (List.prefix_refl _) le3) _ ?_
    intro ι₄ P₄ g₄ t₄ j₄ q₄ S₄
    refine a2 w h₀ A env _ ι₄ P₄ { s with heap:=g₄,toks:=t₄ } (notedBy (model pw w) A env fun e s' => cameBackBy (model pw w) A env E e s') F cb S₄ _ ?_
    intro ι₅ P₅ g₅ t₅ j₅ q₅ S₅ f hf
    obtain rfl:=hf.next'
    obtain ⟨z1,z2,z3,z4⟩:=back (j₄.trans j₅) (q₄.trans q₅) S₅
    refine ⟨vs''.length,Nat.lt_succ_self _,i + 1,vs'',_,_,ι₅,_,g₅,t₅,o'',rfl,i'.trans (j₄.trans j₅),p'.trans z1,z2,if_pos rfl,sepI (q₄.trans q₅) S₅,z4,hJ'',?_,hd',rfl,a4⟩
    exact hK _ _ _ (i'.trans (j₄.trans j₅)) (p'.trans z1) a3
   ·obtain ⟨_,_,_,a1,a2,e⟩:=W
    refine a1 w h₀ A env _ ι' _ { s with heap:=h'',toks:=tk'' } (notedBy (model pw w) A env fun e s' => cameBackBy (model pw w) A env E e s') xv F ct S3 (hxv.mono (List.prefix_refl _) le3) _ ?_
    intro ι₄ P₄ g₄ t₄ j₄ q₄ S₄
    refine a2 w h₀ A env _ ι₄ P₄ { s with heap:=g₄,toks:=t₄ } (notedBy (model pw w) A env fun e s' => cameBackBy (model pw w) A env E e s') F cb S₄ _ ?_
    intro ι₅ P₅ g₅ t₅ j₅ q₅ S₅ f hf
    obtain ⟨_,rfl,q⟩:=k.ret e ι₅ P₅ g₅ t₅ (i₁.trans (i'.trans (j₄.trans j₅))) (p₁.trans (p'.trans (le3.trans (q₄.trans q₅)))) S₅ f hf
    exact q
   ·obtain ⟨_,_,_,a1,a2,e⟩:=W
    refine a1 w h₀ A env _ ι' _ { s with heap:=h'',toks:=tk'' } (notedBy (model pw w) A env fun e s' => cameBackBy (model pw w) A env E e s') xv F ct S3 (hxv.mono (List.prefix_refl _) le3) _ ?_
    intro ι₄ P₄ g₄ t₄ j₄ q₄ S₄
    refine a2 w h₀ A env _ ι₄ P₄ { s with heap:=g₄,toks:=t₄ } (notedBy (model pw w) A env fun e s' => cameBackBy (model pw w) A env E e s') F cb S₄ _ ?_
    intro ι₅ P₅ g₅ t₅ j₅ q₅ S₅ f hf
    obtain rfl:=hf.brk'
    exact k.next e ι₅ P₅ g₅ t₅ (i₁.trans (i'.trans (j₄.trans j₅))) (p₁.trans (p'.trans (le3.trans (q₄.trans q₅)))) S₅
 ·intro v
  exact ZmU ct hT
end
mutual
noncomputable def V.lt (n:Nat):V → Prop
 | .ref k => k < n
 | .tup vs => V.lts n vs
 | .flst vs => V.lts n vs
 | _ => True
noncomputable def V.lts (n:Nat):List V → Prop
 | [] => True
 | v :: vs => V.lt n v ∧ V.lts n vs
end
noncomputable def Fs.lt (n:Nat):List (Nat × V) → Prop
 | [] => True
 | p :: fs => V.lt n p.2 ∧ Fs.lt n fs
noncomputable def AO.lt (n:Nat):AO → Prop
 | .list vs => V.lts n vs
 | .barr _ => True
 | .inst _ fs => Fs.lt n fs
 | .dictB => True
 | .rng .. => True
section
variable {ι:Ix} {P:Z2} {n:Nat}
theorem ZiW {k:Nat} {a d:Addr} (h:ι[k]? = some (a,d)) (l:k < n):(ι.take n)[k]? = some (a,d):=by rw [List.getElem?_take,if_pos l];exact h
theorem VR.take {v:V} {x:Value} (h:VR ι P v x):V.lt n v → VR (ι.take n) P v x :=
 VR.rec (motive_1:=fun v x _ => V.lt n v → VR (ι.take n) P v x) (motive_2:=fun v x _ => V.lts n v → VRs (ι.take n) P v x) (fun _ => .none) (fun _ => .bool) (fun _ => .int) (fun h _ => .bytes h) (fun h _ ih l => .tup h (ih l)) (fun h _ ih l => .flst h (ih l)) (fun h l => .ref (ZiW h l)) (fun _ => .ext) (fun _ => .nil) (fun _ _ a b l => .cons (a l.1) (b l.2)) h
theorem VRs.take' {v:List V} {x:List Value} (h:VRs ι P v x):V.lts n v → VRs (ι.take n) P v x :=
 VRs.rec (motive_1:=fun v x _ => V.lt n v → VR (ι.take n) P v x) (motive_2:=fun v x _ => V.lts n v → VRs (ι.take n) P v x) (fun _ => .none) (fun _ => .bool) (fun _ => .int) (fun h _ => .bytes h) (fun h _ ih l => .tup h (ih l)) (fun h _ ih l => .flst h (ih l)) (fun h l => .ref (ZiW h l)) (fun _ => .ext) (fun _ => .nil) (fun _ _ a b l => .cons (a l.1) (b l.2)) h
theorem ZmV {k:Nat} {a d:Addr} (h:ι[k]? = some (a,d)):k < ι.length:=(List.getElem?_eq_some_iff.mp h).1
theorem VR.lt {v:V} {x:Value} (h:VR ι P v x):V.lt ι.length v :=
 VR.rec (motive_1:=fun v _ _ => V.lt ι.length v) (motive_2:=fun v _ _ => V.lts ι.length v) trivial trivial trivial (fun _ => trivial) (fun _ _ ih => ih) (fun _ _ ih => ih) (fun h => ZmV h) trivial trivial (fun _ _ a b => ⟨a,b⟩) h
theorem VRs.lt {v:List V} {x:List Value} (h:VRs ι P v x):V.lts ι.length v :=
 VRs.rec (motive_1:=fun v _ _ => V.lt ι.length v) (motive_2:=fun v _ _ => V.lts ι.length v) trivial trivial trivial (fun _ => trivial) (fun _ _ ih => ih) (fun _ _ ih => ih) (fun h => ZmV h) trivial trivial (fun _ _ a b => ⟨a,b⟩) h
theorem FRs.take {fs:List (Nat × V)} {es:List DictEntry} (h:FRs ι P fs es):Fs.lt n fs → FRs (ι.take n) P fs es :=
 h.rec (motive:=fun fs es _ => Fs.lt n fs → FRs (ι.take n) P fs es) (fun _ => .nil) fun a b _ c l => .cons a (b.take l.1) (c l.2)
theorem FRs.lt {fs:List (Nat × V)} {es:List DictEntry} (h:FRs ι P fs es):Fs.lt ι.length fs :=
 h.rec (motive:=fun fs _ _ => Fs.lt ι.length fs) trivial fun _ b _ c => ⟨b.lt,c⟩
end
theorem AOR.take {ι:Ix} {P:Z2} {n:Nat} {h:Heap} {ao:AO} {a d:Addr} (r:AOR ι P h ao a d) (l:ao.lt n):AOR (ι.take n) P h ao a d:=by
 cases ao with
 | list vs => obtain ⟨e1,items,m,e2,e3⟩:=r;exact ⟨e1,items,m,e2,e3.take' l⟩
 | barr ks => exact r
 | inst C fs => obtain ⟨e1,es,m,e2,e3⟩:=r;exact ⟨e1,es,m,e2,e3.take l⟩
 | dictB => exact r
 | rng => exact r
theorem AOR.lt {ι:Ix} {P:Z2} {h:Heap} {ao:AO} {a d:Addr} (r:AOR ι P h ao a d):ao.lt ι.length:=by
 cases ao with
 | list vs => obtain ⟨_,items,m,_,e3⟩:=r;exact e3.lt
 | barr ks => trivial
 | inst C fs => obtain ⟨_,es,m,_,e3⟩:=r;exact e3.lt
 | dictB => trivial
 | rng => trivial
theorem V.lt_mono {m n:Nat} (h:m ≤ n) (v:V):V.lt m v → V.lt n v :=
 V.rec (motive_1:=fun v => V.lt m v → V.lt n v) (motive_2:=fun v => V.lts m v → V.lts n v) id (fun _ => id) (fun _ => id) (fun _ => id) (fun _ => id) (fun _ => id) (fun _ l => Nat.lt_of_lt_of_le l h) (fun _ => id) id (fun _ _ a b l => ⟨a l.1,b l.2⟩) v
theorem V.lts_mono {m n:Nat} (h:m ≤ n) (v:List V):V.lts m v → V.lts n v:=by
 induction v with
 | nil => exact id
 | cons a v ih => exact fun l => ⟨V.lt_mono h a l.1,ih l.2⟩
theorem AO.lt_mono {m n:Nat} (h:m ≤ n) {ao:AO} (l:ao.lt m):ao.lt n:=by
 cases ao with
 | list vs => exact V.lts_mono h _ l
 | barr ks => trivial
 | inst C fs =>
  show Fs.lt n fs
  have l':Fs.lt m fs:=l
  clear l
  induction fs with
  | nil => trivial
  | cons p fs ih => exact ⟨V.lt_mono h _ l'.1,ih l'.2⟩
 | dictB => trivial
 | rng => trivial
section
variable {h₀:Heap} {L:Addr} {N:List Str} {ρ:List (Option V)} {ι:Ix} {P:Z2} {σ g:List AO} {h:Heap}
theorem St.trunc (S:St h₀ L N [] ι P (σ ++ g) h) (hl:∀ (k:Nat) (ao:AO),σ[k]? = some ao → ao.lt σ.length):St h₀ L N [] (ι.take σ.length) P σ h:=by
 obtain ⟨m,hm,hv⟩:=S.ns
 have e:σ.length ≤ ι.length:=by rw [S.len,List.length_append];omega
 have up:∀ {k:Nat} {x:Addr × Addr},(ι.take σ.length)[k]? = some x → ι[k]? = some x:=fun {k x} q => by
  rw [List.getElem?_take] at q
  split at q
  ·exact q
  ·cases q
 refine ⟨S.base,S.keep,⟨m,hm,fun i n v _ q => by simp at q⟩,by rw [List.length_take];omega,fun k ao a d e1 e2 => ?_,S.sep.PL,fun k a d q => S.sep.off k a d (up q),fun k k' a d a' d' q1 q2 => S.sep.apart k k' a d a' d' (up q1) (up q2)⟩
 have hk:k < σ.length:=by
  exact (List.getElem?_eq_some_iff.mp e1).1
 exact (S.objs k ao a d (by rw [List.getElem?_append_left hk];exact e1) (up e2)).take (hl k ao e1)
end
noncomputable def Zlv (fi:FnInfo):Bool :=
 fi.scope.kind == .function && !fi.scope.isCoroutine && !fi.scope.isGenerator && fi.scope.names.all (fun p => p.2 != .cell) &&
 decide ((Zs fi.scope).Nodup) && (Zs fi.scope).take fi.args.args.length == fi.args.args.map (·.arg) && (fi.args.args.map (·.arg)).all (fun n => fi.scope.names.lookup n == some .local)
noncomputable def Zib (a:Arguments):Bool:=a.posonlyargs.isEmpty && a.vararg.isNone && a.kwonlyargs.isEmpty && a.kwarg.isNone
theorem ZcK:∀ {ns:List Str} {xs:List Value},ns.length = xs.length → ns.Nodup → ∀ {i:Nat} {n:Str} {x:Value},ns[i]? = some n → xs[i]? = some x → (ns.zip xs).lookup n = some x
 | [],_,_,_,i,n,x,e1,_ => by simp at e1
 | n' :: ns,[],h,_,_,_,_,_,_ => by simp at h
 | n' :: ns,x' :: xs,h,hn,i,n,x,e1,e2 => by
  rw [List.nodup_cons] at hn
  rw [List.zip_cons_cons,List.lookup_cons]
  cases i with
  | zero =>
   simp at e1 e2
   subst e1 e2
   simp
  | succ i =>
   have e1':ns[i]? = some n:=by simpa using e1
   have e2':xs[i]? = some x:=by simpa using e2
   have hne:(n == n') = false:=by
    rw [beq_eq_false_iff_ne]
    rintro rfl
    exact hn.1 (List.mem_of_getElem? e1')
   rw [hne]
   exact ZcK (by simpa using h) hn.2 e1' e2'
theorem ZkO:∀ {ns:List Str} {xs:List Value},ns.length = xs.length → (ns.zip xs).reverse = ns.reverse.zip xs.reverse
 | [],[],_ => rfl
 | [],_ :: _,h => by simp at h
 | _ :: _,[],h => by simp at h
 | n :: ns,x :: xs,h => by
  have h':ns.length = xs.length:=by simpa using h
  rw [List.zip_cons_cons,List.reverse_cons,ZkO h',List.reverse_cons,List.reverse_cons,List.zip_append (by simpa using h')]
  rfl
theorem ZcL {ns:List Str} {xs:List Value} (h:ns.length = xs.length) (hn:ns.Nodup) {i:Nat} {n:Str} {x:Value} (e1:ns[i]? = some n) (e2:xs[i]? = some x):(ns.zip xs).reverse.lookup n = some x:=by
 rw [ZkO h]
 have hi:i < ns.length:=by
  exact (List.getElem?_eq_some_iff.mp e1).1
 have r1:∀ {n},i < n → n - 1 - i < n:=fun h => Nat.lt_of_le_of_lt (Nat.sub_le _ _) (Nat.sub_lt (Nat.zero_lt_of_lt h) Nat.one_pos)
 have r2:∀ {n},i < n → n - 1 - (n - 1 - i) = i:=fun h => Nat.sub_sub_self (Nat.le_sub_one_of_lt h)
 refine ZcK (by rw [List.length_reverse,List.length_reverse,h]) (List.pairwise_reverse.mpr (List.Pairwise.imp (fun q => Ne.symm q) hn)) (i:=ns.length - 1 - i) ?_ ?_
 ·rw [List.getElem?_reverse (r1 hi),r2 hi];exact e1
 ·rw [h] at hi ⊢
  rw [List.getElem?_reverse (r1 hi),r2 hi];exact e2
theorem ZmW {ns:List Str} {xs:List Value} (h:ns.length = xs.length) (hn:ns.Nodup) {n:Str} (m:n ∈ ns):∃ (i:Nat) (x:Value),ns[i]? = some n ∧ xs[i]? = some x ∧ (ns.zip xs).lookup n = some x:=by
 obtain ⟨i,hi,e⟩:=List.getElem_of_mem m
 have e1:ns[i]? = some n:=by rw [List.getElem?_eq_getElem hi,e]
 have e2:xs[i]? = some (xs[i]'(h ▸ hi)):=List.getElem?_eq_getElem _
 exact ⟨i,_,e1,e2,ZcK h hn e1 e2⟩
theorem Zj1 {ns:List Str} {xs:List Value} (f:Str → Option Value) (h:ns.length = xs.length) (hf:∀ (i:Nat) (n:Str) (x:Value),ns[i]? = some n → xs[i]? = some x → f n = some x) :
  ns.filterMap (fun n => (f n).map (n,·)) = ns.zip xs:=by
 induction ns generalizing xs with
 | nil => simp
 | cons n ns ih =>
  cases xs with
  | nil => simp at h
  | cons x xs =>
   have e:=hf 0 n x (by simp) (by simp)
   rw [List.filterMap_cons,e,List.zip_cons_cons]
   dsimp only [Option.map_some]
   rw [ih (by simpa using h) (fun i n x a b => hf (i + 1) n x (by simpa using a) (by simpa using b))]
theorem Zp5 {ns:List Str} {xs:List Value} (h:ns.length = xs.length) (hn:ns.Nodup):ns.filterMap (fun n => ((ns.zip xs).lookup n).map (n,·)) = ns.zip xs :=
 Zj1 _ h fun _ _ _ a b => ZcK h hn a b
theorem Zor {ns:List Str} {xs:List Value} (h:ns.length = xs.length) (hn:ns.Nodup) (k:Nat):(ns.take k).filter (fun n => ((ns.zip xs).lookup n).isNone) = []:=by
 rw [List.filter_eq_nil_iff]
 intro n m
 obtain ⟨_,x,_,_,e⟩:=ZmW h hn (List.mem_of_mem_take m)
 rw [e];simp
theorem Zbg {name qual:Str} {args:Arguments} {body:List Stmt} {scope:Scope} {pm cdv:Value} {xs:List Value} (ok:Zib args = true) (hl:args.args.length = xs.length) (hn:(args.args.map (·.arg)).Nodup) :
  bindArgs (fnOf name qual args body scope .none .none .none pm none cdv .none) ⟨xs,[]⟩ = pure ((args.args.map (·.arg)).zip xs):=by
 obtain ⟨po,as,va,ko,kd,kw,ds⟩:=args
 simp only [Zib,Bool.and_eq_true,List.isEmpty_iff,Option.isNone_iff_eq_none] at ok
 obtain ⟨⟨⟨rfl,rfl⟩,rfl⟩,rfl⟩:=ok
 have hl':(as.map (·.arg)).length = xs.length:=by rw [List.length_map];exact hl
 have h1:¬ ((decide (xs.length > (as.map (·.arg)).length) && true) = true):=by
  rw [decide_eq_false (by omega)];decide
 have h2:∀ k,¬ ((!((((as.map (·.arg)).take k).filter fun n => (((as.map (·.arg)).zip xs).lookup n).isNone).isEmpty)) = true):=fun k => by rw [Zor hl' hn];decide
 refine (if_neg h1).trans ((if_neg (h2 _)).trans ?_)
 have z:∀ (l:List Str) k,l.zip (List.drop k ((none:Option (Array Value)).getD #[]).toList) = []:=fun l k => by rw [show ((none:Option (Array Value)).getD #[]).toList = [] from rfl,List.drop_nil,List.zip_nil_right]
 rw [z]
 exact congrArg (pure (f:=Sem)) ((congrArg (List.filterMap _) (List.append_nil _)).trans (Zp5 hl' hn))
noncomputable def Zc (a:Addr) (sc:Scope) (n:Nat) (ms:List MS):Prop :=
 ∃ i j fi,(a,i,j) ∈ FT ∧ ZdQ i j = some fi ∧ Zlv fi = true ∧ Zib fi.args = true ∧ fi.args.args.length = n ∧ fi.scope = sc ∧ CSs sc fi.body ms
theorem Zbh {fi:FnInfo} (h:Zlv fi = true):fi.scope.kind = .function ∧ fi.scope.isCoroutine = false ∧ fi.scope.isGenerator = false ∧ (∀ x ∈ fi.scope.names,x.2 ≠ .cell) ∧ (Zs fi.scope).Nodup ∧
  (Zs fi.scope).take fi.args.args.length = fi.args.args.map (·.arg) ∧ ∀ n ∈ fi.args.args.map (·.arg),fi.scope.names.lookup n = some .local:=by
 unfold Zlv at h
 simp only [Bool.and_eq_true,beq_iff_eq,Bool.not_eq_true',List.all_eq_true,decide_eq_true_eq,bne_iff_ne] at h
 obtain ⟨⟨⟨⟨⟨⟨h1,h2⟩,h3⟩,h4⟩,h5⟩,h6⟩,h7⟩:=h
 exact ⟨h1,h2,h3,h4,h5,h6,fun n hn => by simpa using h7 n hn⟩
theorem FnHere.keeps {h h':Heap} {a:Addr} {fi:FnInfo} (x:FnHere h a fi) (k:∀ b o,h.get? b = some o → h'.get? b = some o):FnHere h' a fi :=
 let ⟨pm,cdv,oc,osl,e,c⟩:=x
 ⟨pm,cdv,oc,osl,k _ _ e,c.keeps k⟩
theorem ZfX {l:List Str} {n:Nat} {m:List Str} (h:l.take n = m) {i:Nat} {x:Str} (hi:i < n) (e:l[i]? = some x):m[i]? = some x:=by
 rw [← h,List.getElem?_take,if_pos hi];exact e
noncomputable def Out.gives:Out → V → Prop
 | .ret w,v => w = v
 | .next _,v => v = .none
 | .brk _,_ => False
noncomputable def Zq1 (f:Flow):Value:=match f with | .ret v => v | _ => .none
theorem FR.gives {ι P o f v} (h:FR ι P o f) (g:o.gives v):VR ι P v (Zq1 f):=by
 cases h with
 | next => cases g;exact .none
 | ret h => cases g;exact h
 | brk => exact g.elim
theorem ZfY {a:Addr} {fi:FnInfo} {k d:Nat} {ms:List MS} {vs:List V} {σ σr g:List AO} {v:V} {o:Out} (hok:Zlv fi = true) (hcs:CSs fi.scope fi.body ms) (hlen:fi.args.args.length = vs.length) {ρ:List (Option V)} (hρ:ρ = vs.map some ++ List.replicate k none)
  (hb:TSs fi.scope d ms ρ σ o (σr ++ g)) (hov:o.gives v) (hl:σ.length ≤ σr.length) (hv:v.lt σr.length) (ho:∀ (k:Nat) (ao:AO),σr[k]? = some ao → σ[k]? = some ao ∨ ao.lt σr.length)
  {c:Cx} {ι:Ix} {P:Z2} {s:Shared} {xs:List Value} {oc dV pm cdv:Value} {osl:Array (Option Value)} {args:Args} {RR:Result → Shared → Prop} (G:Glob c.w c.h₀) (hdep:c.A.depth + 2 * d + 5 ≤ recursionLimit) (hun:c.A.units + 8 * d + 73 ≤ cLine) (hh:c.A.handled = none)
  (S:c.St ι P σ s.heap) (hx:VRs ι P vs xs) (hat:s.heap.get? a = some ⟨oc,none,.func (fnOf fi.name fi.qual fi.args fi.body fi.scope dV .none .none pm none cdv .none),osl⟩) (hcd:s.heap.CodeRec cdv fi.qual)
  (hbind:BindsTo s (fnOf fi.name fi.qual fi.args fi.body fi.scope dV .none .none pm none cdv .none) args ((fi.args.args.map (·.arg)).zip xs))
  (kQ:Aft c ι P σr s (fun ι' P' s' => ∀ x,VR ι' P' v x → RR (.ok (.ret x)) s')):codeAny (model pw c.w) c.A (.call (.ref a) args) RR s:=by
 obtain ⟨o1,o2,o3,o4,o5,o6,o7⟩:=Zbh hok
 have hnd:(fi.args.args.map (·.arg)).Nodup:=by
  rw [← o6]
  exact List.Sublist.nodup (List.take_sublist _ _) o5
 have hxl:fi.args.args.length = xs.length:=by rw [hlen,hx.length]
 have hnl:(fi.args.args.map (·.arg)).length = xs.length:=by rw [List.length_map];exact hxl
 refine Zaw (fd:=fnOf fi.name fi.qual fi.args fi.body fi.scope dV .none .none pm none cdv .none) (body:=fi.body) (binds:=(fi.args.args.map (·.arg)).zip xs)
  (by omega) hat rfl (G.lim.keeps S.keep0) hcd rfl hbind o4 (fun y hy => o7 _ (List.of_mem_zip hy).1) (fun h₁ hns k₁ => ?_) o2 o3 o1
 obtain ⟨m,⟨oL,es,ep,hL,hLd,hLr⟩,hval⟩:=S.ns
 have hoL:ZN oL:=by unfold ZN;rw [hLd];trivial
 have hL0:c.h₀.get? c.L = none:=Zax S.base S.sep.PL
 obtain ⟨_,leL⟩:=(⟨S.sep.PL,fun b o e => (by
  unfold frz
  rw [if_neg]
  ·exact e
  ·intro q;subst q;rw [S.sep.PL] at e;cases e)⟩:P c.L = none ∧ FrzLe P (frz P c.L oL))
 have fL:frz P c.L oL c.L = some oL:=if_pos rfl
 have hne:s.heap.objs.size ≠ c.L:=(Nat.ne_of_lt S.ltL).symm
 have hPn:frz P c.L oL s.heap.objs.size = none:=by
  show (if s.heap.objs.size = c.L then _ else _) = _
  rw [if_neg hne];exact S.freshP
 have S':St c.h₀ s.heap.objs.size (Zs fi.scope) ρ ι (frz P c.L oL) σ h₁:=by
  refine ⟨fun b o e => leL _ _ (S.base b o e),fun b o e => ?_,⟨_,hns,fun i' n' v' e1 e2 => ?_⟩,S.len,fun k' ao x y e1 e2 => (S.objs k' ao x y e1 e2).same (List.prefix_refl _) leL (fun _ e => k₁ _ _ e) (fun _ e => k₁ _ _ e),hPn,fun k' x y e => ?_,S.sep.apart⟩
  ·unfold frz at e
   split at e
   ·rename_i q;subst q;cases e;exact k₁ _ _ hL
   ·exact k₁ _ _ (S.keep _ _ e)
  ·subst hρ
   have hi':i' < vs.length:=by
    rcases Nat.lt_or_ge i' vs.length with q | q
    ·exact q
    ·rw [List.getElem?_append_right (by simpa using q)] at e2
     rw [List.getElem?_replicate] at e2
     split at e2 <;> cases e2
   rw [List.getElem?_append_left (by simpa using hi'),List.getElem?_map] at e2
   have e3:vs[i']? = some v':=by
    cases q:vs[i']? with
    | none => rw [q] at e2;cases e2
    | some z => rw [q] at e2;simp at e2;subst e2;rfl
   obtain ⟨x,hx',hr⟩:=hx.get e3
   refine ⟨x,ZcL hnl hnd (ZfX o6 (by rw [hlen];exact hi') e1) hx',hr.mono (List.prefix_refl _) leL⟩
  ·obtain ⟨q1,q2,q3,q4⟩:=S.sep.off k' x y e
   obtain ⟨l1,l2⟩:=S.freshI e
   refine ⟨?_,?_,Nat.ne_of_lt l1,Nat.ne_of_lt l2⟩
   ·show (if x = c.L then _ else _) = _
    rw [if_neg q3];exact q1
   ·show (if y = c.L then _ else _) = _
    rw [if_neg q4];exact q2
 have FX:Fx c.w c.h₀ (c.A.deeper (callEnv (fnOf fi.name fi.qual fi.args fi.body fi.scope dV .none .none pm none cdv .none) s.heap.objs.size a)) (callEnv (fnOf fi.name fi.qual fi.args fi.body fi.scope dV .none .none pm none cdv .none) s.heap.objs.size a) fi.scope d:=by
  refine ⟨⟨G,?_,?_,hh⟩,rfl,o1,o5,rfl,rfl⟩
  ·show c.A.depth + 1 + 2 * d + 4 ≤ _
   omega
  ·show c.A.units + 3 + 8 * d + 70 ≤ _
   omega
 refine hb c.w c.h₀ _ _ _ ι (frz P c.L oL) { s with heap:=h₁,toks:=_ } _ FX hcs S' _ ?_
 intro ι' P' h' tk i' p' S2₀ f hf
 have S2:=S2₀.forget
 have hr:=hf.gives hov
 have eL:P' c.L = some oL:=p' _ _ fL
 have hσl:ι.length = σ.length:=S.len
 have T:=S2.trunc (fun k' ao e => by
  rcases ho k' ao e with q | q
  ·obtain ⟨x,y,_,r⟩:=S.obj q
   exact AO.lt_mono (by rw [hσl];exact hl) r.lt
  ·exact q)
 have T2:=T.thaw eL hoL hL0
 have le2:FrzLe P (thaw P' c.L):=ZeC (leL.trans p') S.sep.PL
 have pre:ι <+: ι'.take σr.length:=by
  obtain ⟨t,rfl⟩:=i'
  rw [List.take_append,List.take_of_length_le (show ι.length ≤ σr.length by rw [hσl];exact hl)]
  exact List.prefix_append _ _
 refine kQ _ (thaw P' c.L) h' tk pre le2 ⟨T2.base,T2.keep,⟨m,⟨oL,es,ep,S2.keep _ _ eL,hLd,hLr⟩,fun i n v e1 e2 => ?_⟩,T2.len,T2.objs,if_pos rfl,fun k' x y e => ?_,T2.sep.apart⟩ _ ?_
 ·obtain ⟨x,hx',hr'⟩:=hval i n v e1 e2
  exact ⟨x,hx',hr'.mono pre le2⟩
 ·obtain ⟨q1,q2,_⟩:=T2.sep.off k' x y e
  obtain ⟨z1,z2,_⟩:=T.sep.off k' x y e
  exact ⟨q1,q2,(by first | exact Zr z1 eL | exact (Zr eL z1).symm | exact fun q => by rw [q,eL] at z1;cases z1),(by first | exact Zr z2 eL | exact (Zr eL z2).symm | exact fun q => by rw [q,eL] at z2;cases z2)⟩
 ·exact (hr.take hv).thaw eL hoL
theorem ZcM {a:Addr} {sc:Scope} {n k d:Nat} {ms:List MS} {vs:List V} {σ σr g:List AO} {v:V} {o:Out} (hc:Zc a sc n ms) (hn:vs.length = n) {ρ:List (Option V)} (hρ:ρ = vs.map some ++ List.replicate k none)
  (hb:TSs sc d ms ρ σ o (σr ++ g)) (hov:o.gives v) (hl:σ.length ≤ σr.length) (hv:v.lt σr.length) (ho:∀ (k:Nat) (ao:AO),σr[k]? = some ao → σ[k]? = some ao ∨ ao.lt σr.length) :
  OpV (d + 1) (Fn (.ref a)) vs σ v σr:=by
 intro c ι P s xs R S hx Q kQ
 obtain ⟨i,j,fi,hft,hfi,hok,hoa,hlen,hsc,hcs⟩:=hc
 obtain ⟨o1,o2,o3,o4,o5,o6,o7⟩:=Zbh hok
 obtain ⟨pm,cdv,oc,osl,hat,hcd⟩:=(R.gl.fn a i j fi hft hfi).keeps S.keep0
 have hnd:(fi.args.args.map (·.arg)).Nodup:=by
  rw [← o6]
  exact List.Sublist.nodup (List.take_sublist _ _) o5
 have hxl:fi.args.args.length = xs.length:=by rw [hlen,← hn,hx.length]
 have hbind:=Zbg (name:=fi.name) (qual:=fi.qual) (body:=fi.body) (scope:=fi.scope) (pm:=pm) (cdv:=cdv) hoa hxl hnd
 subst hsc
 have h1:=R.depth
 have h2:=R.units
 exact wpAny_call (ZfY hok hcs (hlen.trans hn.symm) hρ hb hov hl hv ho R.gl (by omega) (by omega) R.hand S hx hat hcd (BindsTo.of_eq hbind) kQ)
section
variable {sc:Scope} {d:Nat} {ρ:List (Option V)} {σ σ₁ σ₂ σ₃:List AO}
theorem Zq2:GV.length ≤ GN.length:=by decide
theorem ZcN {i:Nat} {n:Str} {v:V} (h1:(GN ++ BN)[i]? = some n) (h:GV[i]? = some v):GN[i]? = some n:=by
 have hi:i < GN.length:=by
  have:i < GV.length:=by
   exact (List.getElem?_eq_some_iff.mp h).1
  exact Nat.lt_of_lt_of_le this Zq2
 rwa [List.getElem?_append_left hi] at h1
theorem ZeE {w:World} {h₀:Heap} {a i:Nat} {j:Option Nat} {fi:FnInfo} (G:Glob w h₀) (h1:(a,i,j) ∈ FT) (h2:ZdQ i j = some fi):Looks (model pw w) h₀ (keeperOf (.ref a)) .frame:=by
 obtain ⟨pm,cdv,oc,osl,e,_⟩:=G.fn a i j fi h1 h2
 intro A Q E s k q
 unfold keeperOf
 exact PySem.wpAny_bind (PySem.wpAny_load (k _ _ e) (PySem.wpAny_pure q))
theorem TE.call {f:Nat} {as:List ME} {fv:Value} {kk:Keeper} {vs:List V} {v:V} (hg:GV[f]? = some (.ext fv)) (hk:∀ w h₀,Glob w h₀ → Looks (model pw w) h₀ (keeperOf fv) kk) (hkk:kk = .frame ∨ kk = .machine)
  (h1:TEs sc d as ρ σ vs σ₁) (h2:OpV d (Fn fv) vs σ₁ v σ₂):TE sc d (.call f as) ρ σ v σ₂:=by
 intro w h₀ A env pe ι P s E F C S Q k
 obtain ⟨_,_,_,_,rfl,c1,c2,c3,c4,c5⟩:=C
 refine ZaO rfl (wpAny_Name (Zbe F S (ZcN c1 hg) c2 hg fun x hx => ?_) c3)
 obtain rfl:=hx.ext'
 refine ZL c4 c5 (hk w h₀ F.gl) hkk (h1 w h₀ A env _ ι P s E _ F c4 S _ ?_)
 intro ι₁ P₁ g₁ t₁ i₁ p₁ S₁ xs hxs
 refine ⟨S₁.keep0,?_⟩
 exact h2 (cx w h₀ A env sc ρ E) ι₁ P₁ _ xs F.toRm S₁ hxs _ (k.up i₁ p₁)
theorem TE.def {f a n:Nat} {sc':Scope} {ms:List MS} {as:List ME} {vs:List V} {v:V} (hg:GV[f]? = some (.ext (.ref a))) (hc:Zc a sc' n ms) (h1:TEs sc d as ρ σ vs σ₁) (h2:OpV d (Fn (.ref a)) vs σ₁ v σ₂):TE sc d (.call f as) ρ σ v σ₂ :=
 let ⟨_,_,_,h3,h4,_⟩:=hc
 TE.call hg (fun _ _ G => ZeE G h3 h4) (.inl rfl) h1 h2
theorem ZeF {w:World} {h₀:Heap} {A:Around} {env:Env} {E:Value → Shared → Prop} {s:Shared} {L N ι P} {n:Str} {bv:Value} {Q:Value → Shared → Prop} (F:Fx w h₀ A env sc d) (S:St h₀ L N ρ ι P σ s.heap)
  (h1:n ∈ BN) (h2:sc.names.lookup n = some .globalImplicit) (hv:bootBuiltins n = some bv) (h:Q bv s):wpAny (model pw w) A (loadName env n) Q E s:=by
 rw [loadName_read (by rw [F.scope];exact F.kind) (by rw [Env.kindOf,F.scope];exact h2)]
 obtain ⟨mg,hg,_,hn⟩:=F.gl.own
 obtain ⟨mb,hb,hbv⟩:=F.gl.blt
 unfold loadGlobal
 rw [F.globals,F.builtins]
 refine wpAny_bind (wpAny_nsGet (hg.keeps S.keep0) ?_)
 rw [hn n h1]
 refine wpAny_bind (wpAny_nsGet (hb.keeps S.keep0) ?_)
 rw [hbv n h1,hv]
 exact wpAny_pure h
noncomputable def Zpw:Value → Bool
 | .builtin _ => true
 | .type _ => true
 | _ => false
theorem Ze9 {M:Model} {h:Heap} {bv:Value} (hb:Zpw bv = true):Looks M h (keeperOf bv) .machine:=by
 cases bv <;> first | exact Looks.of_pure rfl | cases hb
theorem TE.blt {j:Nat} {as:List ME} {n:Str} {bv:Value} {vs:List V} {v:V} (hn:BN[j]? = some n) (hv:bootBuiltins n = some bv) (hb:Zpw bv = true) (h1:TEs sc d as ρ σ vs σ₁) (h2:OpV d (Fn bv) vs σ₁ v σ₂):TE sc d (.call (74 + j) as) ρ σ v σ₂:=by
 intro w h₀ A env pe ι P s E F C S Q k
 obtain ⟨_,_,_,_,rfl,c1,c2,c3,c4,c5⟩:=C
 rename_i n' _ _ _
 have e:n' = n:=by
  rw [List.getElem?_append_right (show GN.length ≤ 74 + j by rw [show GN.length = 74 by decide];omega),show GN.length = 74 by decide,show 74 + j - 74 = j by omega,hn] at c1
  exact (Option.some.inj c1).symm
 subst e
 refine ZaO rfl (wpAny_Name (ZeF F S (List.mem_of_getElem? hn) c2 hv ?_) c3)
 refine ZL (h:=h₀) c4 c5 (Ze9 hb) (.inr rfl) (h1 w h₀ A env _ ι P s E _ F c4 S _ ?_)
 intro ι₁ P₁ g₁ t₁ i₁ p₁ S₁ xs hxs
 refine ⟨S₁.keep0,?_⟩
 exact h2 (cx w h₀ A env sc ρ E) ι₁ P₁ _ xs F.toRm S₁ hxs _ (k.up i₁ p₁)
noncomputable def Zic (d:Nat) (n:Nat) (v:V) (σ:List AO) (fv:Value):Prop :=
 (∀ w h₀,Glob w h₀ → ∃ kk,(kk = .frame ∨ kk = .machine) ∧ Looks (model pw w) h₀ (keeperOf fv) kk) ∧
 ∀ (c:Cx) ι P s x (nm:Str) (pl:Sem Bool) (Q:Value × List Value → Shared → Prop),Rm c.w c.h₀ c.A d → c.St ι P σ s.heap → VR ι P v x → AN[n]? = some nm → (∀ tk,Q (fv,[x]) { s with toks:=tk }) → wpAny (model pw c.w) c.A (getMethod x nm pl) Q c.E s
theorem ZeG {env:Env} {pe:Expr} {n:Str} {whole:Sem Value} (h:ZdC pe = true):attributeBase pe n env whole = whole:=by
 cases pe <;> first | rfl | cases h
theorem TE.callm {o:ME} {n:Nat} {as:List ME} {u v:V} {fv:Value} {vs:List V} (h0:TE sc d o ρ σ u σ₁) (hm:Zic d n u σ₁ fv) (h1:TEs sc d as ρ σ₁ vs σ₂) (h2:OpV d (Fn fv) (u :: vs) σ₂ v σ₃):TE sc d (.callm o n as) ρ σ v σ₃:=by
 intro w h₀ A env pe ι P s E F C S Q k
 obtain ⟨_,_,_,_,_,rfl,c1,c2,c3,c4,c5,c6⟩:=C
 rename_i o' n' ap args p
 show wpAny _ _ (do
  let ov ← attributeBase o' n' env (eval o' env)
  standAt ap.atName
  methodCall o' n' ap p env ov (args.length + 0) (backTo p (starEach args env)) []) _ _ _
 rw [ZeG c2]
 refine wpAny_bind (h0 w h₀ A env _ ι P s E F c1 S _ ?_)
 intro ι₁ P₁ g₁ t₁ i₁ p₁ S₁ x hx
 refine wpAny_bind (wpAny_standAt ?_)
 have few:methodCallForm (args.length + 0) (backTo p (starEach args env)) ([]:List (Option Str × Sem Value)) = true:=by
  obtain ⟨n1,_⟩:=noStar (pos:=p) (env:=env) c5
  unfold methodCallForm
  rw [List.any_eq_false] at n1
  simp only [List.all_nil,List.isEmpty_nil,if_true,Bool.and_true,Bool.and_eq_true,List.all_eq_true,decide_eq_true_eq,Bool.not_eq_true']
  exact ⟨fun y hy => by simpa using n1 y hy,by omega⟩
 unfold methodCall
 rw [few]
 refine wpAny_bind (wpAny_holding ?_)
 show wpAny _ _ (getMethod x n' (do return (← importBound o' env).getD true)) _ _ _
 obtain ⟨⟨kk,hkk,hlk⟩,hmm⟩:=And.intro (hm.1 w h₀ F.gl) hm.2
 refine hmm (cx w h₀ A env sc ρ E) ι₁ P₁ { s with heap:=g₁,toks:=t₁ } x n' _ _ F.toRm S₁ hx c3 fun tk => ?_
 unfold methodCallPos
 rw [c4]
 refine wpAny_bind (wpAny_pure ?_)
 refine ZL (h:=h₀) c5 c6 hlk hkk (h1 w h₀ A env _ ι₁ P₁ _ E _ F c5 S₁ _ ?_)
 intro ι₂ P₂ g₂ t₂ i₂ p₂ S₂ xs hxs
 refine ⟨S₂.keep0,?_⟩
 exact h2 (cx w h₀ A env sc ρ E) ι₂ P₂ _ (x :: xs) F.toRm S₂ (.cons (hx.mono i₂ p₂) hxs) _ ((k.up i₁ p₁).up i₂ p₂)
end
section
variable {sc:Scope} {d k:Nat} {ρ:List (Option V)} {σ:List AO} {vs ws:List V} {ks ls:List Int} {a:Int} {v u:V}
noncomputable def Oct (ks:List Int):Prop:=∀ k ∈ ks,0 ≤ k ∧ k < 256
theorem Zg7 {ns:List Int} (h:Oct ns):KBw.bInts (byteArr ns) = ns:=by
 unfold KBw.bInts byteArr
 rw [List.map_map]
 conv => rhs;rw [← List.map_id ns]
 refine List.map_congr_left fun n hn => ?_
 obtain ⟨h0,h1⟩:=h n hn
 show ((n.toNat.toUInt8.toNat:Nat):Int) = n
 rw [UInt8.toNat_ofNat']
 omega
theorem Z4 (hk:IsL σ v (Za ks)) (ho:Oct ks) (hz:ks.length ≤ 1000000):OpV d (Fn (.type "bytes")) [v] σ (.bytes ks) σ:=.one fun c ι P s x R S r1 Q kQ => by
 obtain ⟨q,items,n,rfl,e1,e2⟩:=hk.items S r1
 have il:s.heap.IsList q items.toList.toArray:=by simpa using Zq e1
 refine up (call_bytes_ints il e2.ints ho (by rw [← e2.length,sizeLine_eq];unfold Za;rw [List.length_map];omega) R.hand fun h' t tk hk' => ?_)
 exact kQ ι P h' tk (List.prefix_refl _) (.refl _) (S.ext hk') _ (.bytes (Zg7 ho))
theorem Zbv {x y:V} (hx:IsL σ x vs) (hy:IsL σ y ws) (hz:vs.length + ws.length ≤ 1000000):OpV d (Bin .Add) [x,y] σ (.ref σ.length) (σ ++ [.list (vs ++ ws)]):=.two fun c ι P s x y R S r1 r2 Q kQ => by
 obtain ⟨q,items,n,rfl,e1,e2⟩:=hx.items S r1
 obtain ⟨q',items',n',rfl,f1,f2⟩:=hy.items S r2
 obtain ⟨m,F,B⟩:=S.rule
 have z1:vs.length = items.size:=by simpa using e2.length
 have z2:ws.length = items'.size:=by simpa using f2.length
 refine up (add_arrays F Zcz (Zq e1) (Zq f1) (fun h' F' N' => ?_) (by rw [sizeLine_eq];omega))
 have S':=(B F' (fun p hp => N' p (.tail _ hp))).1
 have pr:ι <+: ι ++ [(s.heap.objs.size,s.heap.objs.size)]:=List.prefix_append _ _
 exact kQ _ P h' s.toks pr (.refl _) (S.addAt S' (Nat.le_refl _) ⟨rfl,_,0,(N' _ (.head _)).1,by simpa using (e2.append f2).mono pr (.refl _)⟩) _ (.ref (d:=s.heap.objs.size) S.last)
theorem VRs.flat {ι P} {vs:List V} {xs:List Value} (h:VRs ι P vs xs):∀ n,VRs ι P (List.replicate n vs).flatten (List.replicate n xs).flatten
 | 0 => .nil
 | n + 1 => by
  rw [List.replicate_succ,List.replicate_succ,List.flatten_cons,List.flatten_cons]
  exact h.append (h.flat n)
theorem ZiX (items:Array Value):∀ (n:Nat) (acc:Array Value),(List.foldl (fun x1 x2 => x1 ++ x2) acc (List.replicate n items)).toList = acc.toList ++ (List.replicate n items.toList).flatten
 | 0,acc => by simp
 | n + 1,acc => by
  rw [List.replicate_succ,List.foldl_cons,ZiX items n,List.replicate_succ,List.flatten_cons,Array.toList_append,List.append_assoc]
theorem ZiY {x:V} (hx:IsL σ x vs) (h0:-1000000 ≤ a) (h1:vs.length * a.toNat ≤ 1000000) (h2:a ≤ 1000000):OpV d (Bin .Mult) [x,.int a] σ (.ref σ.length) (σ ++ [.list (List.replicate a.toNat vs).flatten]):=.two fun c ι P s x y R S r1 r2 Q kQ => by
 obtain ⟨q,items,n,rfl,e1,e2⟩:=hx.items S r1
 obtain ⟨u,rfl⟩:=r2.int'
 obtain ⟨m,F,B⟩:=S.rule
 have z1:vs.length = items.size:=by simpa using e2.length
 refine up (mul_list F Zcz e1 (by omega) (by omega) (by rw [← z1];omega) (fun h' F' N' => ?_))
 have S':=(B F' (fun p hp => N' p (.tail _ hp))).1
 have pr:ι <+: ι ++ [(s.heap.objs.size,s.heap.objs.size)]:=List.prefix_append _ _
 refine kQ _ P h' s.toks pr (.refl _) (S.addAt S' (Nat.le_refl _) ⟨rfl,_,0,(N' _ (.head _)).1,?_⟩) _ (.ref (d:=s.heap.objs.size) S.last)
 rw [ZiX]
 by_cases hi:items.isEmpty = true
 ·rw [if_pos hi]
  have:vs = []:=by
   have:items.size = 0:=by simpa using hi
   rw [this] at z1
   exact List.eq_nil_of_length_eq_zero z1
  subst this
  simpa using VRs.nil
 ·rw [if_neg hi]
  simpa using (e2.flat a.toNat).mono pr (.refl _)
theorem ZbF (ns:List Int) (k:Int):ns.any (· == k) = ns.contains k:=by
 rw [Bool.eq_iff_iff,List.any_eq_true,List.contains_iff_mem]
 constructor
 ·rintro ⟨x,hx,e⟩;rw [← beq_iff_eq.mp e];exact hx
 ·intro h;exact ⟨k,h,by simp⟩
theorem ZeH {x:V} (hx:IsL σ x (Za ks)):OpV d (Cmp .In) [.int a,x] σ (.bool (ks.contains a)) σ:=.two fun c ι P s x y R S r1 r2 Q kQ => by
 obtain ⟨q,items,n,rfl,e1,e2⟩:=hx.items S r2
 obtain ⟨u,rfl⟩:=r1.int'
 have il:s.heap.IsList q items.toList.toArray:=by simpa using Zq e1
 refine up (in_list_ints il e2.ints ?_)
 rw [ZbF]
 exact Ze S kQ s.toks _ .bool
theorem Zj2 {x:V} (hx:IsL σ x (Za ks)):OpV d (Cmp .NotIn) [.int a,x] σ (.bool (!(ks.contains a))) σ:=.two fun c ι P s x y R S r1 r2 Q kQ => by
 obtain ⟨q,items,n,rfl,e1,e2⟩:=hx.items S r2
 obtain ⟨u,rfl⟩:=r1.int'
 have il:s.heap.IsList q items.toList.toArray:=by simpa using Zq e1
 refine up (notin_list_ints il e2.ints ?_)
 rw [ZbF]
 exact Ze S kQ s.toks _ .bool
theorem Zfz {ι P} {b:Array UInt8} {acc:Array Value} (h:ItemsOf (fun i v => ∃ c u,b[i]? = some c ∧ v = .int (c.toNat:Int) u) acc b.size):VRs ι P (Za (KBw.bInts b)) acc.toList:=by
 obtain ⟨h1,h2⟩:=h
 have key:∀ (l:List UInt8) (xs:List Value),l.length = xs.length → (∀ (j:Nat) (v:Value),xs[j]? = some v → ∃ (c:UInt8) (u:Tok),l[j]? = some c ∧ v = Value.int (c.toNat:Int) u) → VRs ι P (Za (l.map fun c => (c.toNat:Int))) xs:=by
  intro l
  induction l with
  | nil => intro xs hl _;cases xs with | nil => exact .nil | cons _ _ => simp at hl
  | cons c l ih =>
   intro xs hl hx
   cases xs with
   | nil => simp at hl
   | cons x xs =>
    obtain ⟨c',u,e1,rfl⟩:=hx 0 x rfl
    cases e1
    exact .cons .int (ih xs (by simpa using hl) fun j v e => hx (j + 1) v (by simpa using e))
 refine key b.toList acc.toList (by simp [h1]) fun j v e => ?_
 obtain ⟨c,u,e1,e2⟩:=h2 j v (by simpa using e)
 exact ⟨c,u,by simpa using e1,e2⟩
end
section
variable {prog:Program} {w:World} {A:Around} {E:Value → Shared → Prop} {s:Shared} {b:Array UInt8} {t:Tok}
theorem Zdl:typeLookup (.type "bytes") "__len__" = pure (some (.builtin "bytes.__len__")):=by rw [typeLookup_type,builtinLookup_eq_fast];kernel_rfl
theorem Zid {R:Result → Shared → Prop} (hh:A.handled = none) (S:Addr) (res:Value) (c₀:Nat) (hS:s.heap.get? S = some { cls:=.type "list",data:=.seq #[] c₀ })
  (hR:∀ h' tk acc' c',(∀ b o,b ≠ S → s.heap.get? b = some o → h'.get? b = some o) → h'.get? S = some { cls:=.type "list",dict:=none,data:=.seq acc' c',slots:=#[] } →
   ItemsOf (fun i v => ∃ c u,b[i]? = some c ∧ v = .int (c.toNat:Int) u) acc' b.size → R (.ok (.ret res)) { s with heap:=h',toks:=tk }) (hn:b.size ≤ sizeLine) :
  PySem.wpAny (model prog w) A.in1 (Builtin.List.listExtendWith (.ref S) (.bytes b t) res)
   (fun fin s' => match fin with | .done f => R (.ok f) s' | .again c' => c'.quiet = true ∧ PySem.codeAny (model prog w) A c' R s') (fun e s' => R (.error e) s') s:=by
 have hSI:S ≠ s.heap.objs.size:=Nat.ne_of_lt (Heap.lt_size hS)
 have hSf:S ∉ [s.heap.objs.size]:=fun hm => hSI (List.mem_singleton.mp hm)
 unfold Builtin.List.listExtendWith
 refine PySem.wpAny_bind (PySem.wpAny_typeOf (T:="bytes") (v:=.bytes b t) (typeIs_bytes _ _ _) ?_)
 have h1:Builtin.List.listSameRef (.ref S) (.bytes b t) = false:=rfl
 have h2:(Value.type "bytes" == Value.type "list") = false:=by decide
 have h3:(Value.type "bytes" == Value.type "tuple") = false:=by decide
 simp only [h1,h2,h3,Bool.or_false,Bool.false_eq_true,if_false]
 refine PySem.wpAny_bind (KBw.pyIter_bytes ?_)
 refine PySem.wpAny_bind (PySem.wpAny_holding ?_)
 unfold Builtin.List.listLengthHint
 refine PySem.wpAny_bind (PySem.wpAny_specialOf (T:="bytes") (v:=.bytes b t) (typeIs_bytes _ _ _) Zdl ?_)
 wp_delta
 refine PySem.wpAny_bind (PySem.wpAny_isInstance (T:="bytes") (v:=.bytes b t) (b:=true) (typeIs_bytes _ _ _) (by rw [isSubtype_type];kernel_rfl) ?_)
 show PySem.wpAny _ _ (typeOf (Value.bytes b t) >>= _) _ _ _
 refine PySem.wpAny_bind (PySem.wpAny_typeOf (T:="bytes") (v:=.bytes b t) (typeIs_bytes _ _ _) ?_)
 refine PySem.wpAny_pure ?_
 rw [if_neg (by decide)]
 have W:=KBw.walks (prog:=prog) (w:=w) (A:=A.in1) hh s.heap.objs.size b t
 refine PySem.wpAny_pure ⟨plainId_quiet F.plain_extend_loop _,PySem.codeAny_extend_loopS W.toS hn _ hSf _ b.size 0 _ _ _ rfl (Nat.zero_le _) ⟨_,Heap.get?_push_size _ rfl,rfl,rfl⟩ (Heap.get?_push_of_some _ hS) (ItemsOf.nil _) fun s' acc' c' hm hS' hacc => ?_⟩
 rw [Moved.eq_with hm]
 refine hR s'.heap s'.toks acc' c' (fun b' ob hb e => hm.heap b' ob (fun hmem => ?_) (Heap.get?_push_of_some _ e)) hS' hacc
 rcases List.mem_cons.mp hmem with e' | hmem
 ·exact hb e'
 ·exact absurd (Heap.lt_size e) (by rw [List.mem_singleton.mp hmem];exact Nat.lt_irrefl _)
theorem ZfJ {R:Result → Shared → Prop} (hh:A.handled = none) (S:Addr) (hS:s.heap.get? S = some { cls:=.type "list",data:=.seq #[] })
  (hR:∀ h' tk acc' c',(∀ b o,b ≠ S → s.heap.get? b = some o → h'.get? b = some o) → h'.get? S = some { cls:=.type "list",dict:=none,data:=.seq acc' c',slots:=#[] } →
   ItemsOf (fun i v => ∃ c u,b[i]? = some c ∧ v = .int (c.toNat:Int) u) acc' b.size → R (.ok (.ret .none)) { s with heap:=h',toks:=tk }) (hn:b.size ≤ sizeLine) :
  PySem.wpAny (model prog w) A.in1 (Builtin.«list.__init__» ⟨[.ref S,.bytes b t],[]⟩)
   (fun fin s' => match fin with | .done f => R (.ok f) s' | .again c' => c'.quiet = true ∧ PySem.codeAny (model prog w) A c' R s') (fun e s' => R (.error e) s') s:=by
 show PySem.wpAny _ _ (do let old ← Builtin.List.listItems (.ref S);Builtin.List.listUpdate (.ref S) (fun _ => #[]);letGo old.toList.reverse;Builtin.List.listExtendWith (.ref S) (.bytes b t) .none) _ _ s
 refine PySem.wpAny_bind ?_
 unfold Builtin.List.listItems
 refine PySem.wpAny_bind (PySem.wpAny_seqItems hS rfl (PySem.wpAny_pure ?_))
 show PySem.wpAny _ _ (updateSeq S (fun _ => #[]) >>= fun _ => letGo (#[]:Array Value).toList.reverse >>= fun _ => Builtin.List.listExtendWith (.ref S) (.bytes b t) .none) _ _ s
 refine PySem.wpAny_bind (PySem.wpAny_updateSeq hS rfl ?_)
 have hS₂:=Heap.get?_update_self (Obj.mapSeq (fun _ => (#[]:Array Value))) hS rfl
 have oth:∀ b o,b ≠ S → s.heap.get? b = some o → (s.heap.update S (Obj.mapSeq (fun _ => (#[]:Array Value)))).get? b = some o :=
  fun b o hb e => (Heap.get?_update_other _ _ (Ne.symm hb)).trans e
 refine PySem.wpAny_bind (PySem.wpAny_letGo ?_)
 refine Zid (hn:=hn) hh S .none _ hS₂ fun h' tk acc' c' hk hS' hacc => ?_
 exact hR h' tk acc' c' (fun b o hb e => hk b o hb (oth b o hb e)) hS' hacc
theorem ZfK {Q:Value → Shared → Prop} (hh:A.handled = none)
  (hQ:∀ h' tk acc' c',(∀ b o,s.heap.get? b = some o → h'.get? b = some o) →
   h'.get? s.heap.objs.size = some { cls:=.type "list",dict:=none,data:=.seq acc' c',slots:=#[] } → ItemsOf (fun i v => ∃ c u,b[i]? = some c ∧ v = .int (c.toNat:Int) u) acc' b.size → Q (.ref s.heap.objs.size) { s with heap:=h',toks:=tk }) (hn:b.size ≤ sizeLine) :
  PySem.wpAny (model prog w) A (call (.type "list") [.bytes b t]) Q E s:=by
 refine callType_codes (Q₁:=fun obj s₁ => obj = .ref s.heap.objs.size ∧ s₁ = { s with heap:=s.heap.push { cls:=.type "list",data:=.seq #[] } }) F.called_list (F.typeCall_list_1 _) F.entry_list_init
  (code_list_new _ ⟨rfl,rfl⟩) fun obj s₁ h₁ => ?_
 obtain ⟨rfl,rfl⟩:=h₁
 have hS:(s.heap.push { cls:=.type "list",data:=.seq #[] }).get? s.heap.objs.size = some { cls:=.type "list",data:=.seq #[] }:=Heap.get?_push_size _ rfl
 refine ⟨⟨_,hS,rfl⟩,F.args_list_init_2 _ _,ZfJ (A:=A.in1) (hn:=hn) hh _ hS fun h' tk acc' c' hk hS' hacc => ?_⟩
 exact ⟨rfl,hQ h' tk acc' c' (fun b o e => hk b o (Nat.ne_of_lt (Heap.lt_size e)) (Heap.get?_push_of_some _ e)) hS' hacc⟩
end
section
variable {d k:Nat} {σ:List AO} {vs ws:List V} {ks ls:List Int} {v:V}
theorem ZhB (hz:ks.length ≤ 1000000):OpV d (Fn (.type "list")) [.bytes ks] σ (.ref σ.length) (σ ++ [.list (Za ks)]):=.one fun c ι P s x R S r1 Q kQ => by
 obtain ⟨b,t,rfl,rfl⟩:=r1.bytes'
 rw [KBw.ints_length] at hz
 refine up (ZfK R.hand (fun h' tk acc' c' hk' e1 hacc => ?_) (by rw [sizeLine_eq];omega))
 have pr:ι <+: ι ++ [(s.heap.objs.size,s.heap.objs.size)]:=List.prefix_append _ _
 exact kQ _ P h' tk pr (.refl _) (S.addAt (S.ext hk') (Nat.le_refl _) ⟨rfl,_,_,e1,(Zfz hacc).mono pr (.refl _)⟩) _ (.ref (d:=s.heap.objs.size) S.last)
theorem Zlw (hx:IsL σ v vs) (hz:vs.length ≤ 1000000):OpV d (Fn (.type "list")) [v] σ (.ref σ.length) (σ ++ [.list vs]):=.one fun c ι P s x R S r1 Q kQ => by
 obtain ⟨q,items,n,rfl,e1,e2⟩:=hx.items S r1
 have z1:vs.length = items.size:=by simpa using e2.length
 refine up (call_list_seq q (T:="list") (.inl rfl) e1 rfl rfl (fun h' c' hk' f1 => ?_) (by rw [sizeLine_eq];omega))
 have pr:ι <+: ι ++ [(s.heap.objs.size,s.heap.objs.size)]:=List.prefix_append _ _
 exact kQ _ P h' s.toks pr (.refl _) (S.addAt (S.ext hk') (Nat.le_refl _) ⟨rfl,_,_,f1,e2.mono pr (.refl _)⟩) _ (.ref (d:=s.heap.objs.size) S.last)
end
end Mine
section
namespace MineL
section
variable {prog:Program} {w:World} {A:Around} {E:Value → Shared → Prop} {s:Shared} {Q:Value → Shared → Prop}
theorem isinst_bytes_false {T:String} {b:Array UInt8} {t:Tok} (hne:(Value.type "bytes" == Value.type T) = false) (hty:typeOf (.type T) = pure (.type "type")) (hsub:isSubtype (.type "bytes") (.type T) = pure false) (h:Q (.bool false) { s with toks:=s.toks + 1 }) :
  wpAny (model prog w) A (call (.builtin "isinstance") [.bytes b t,.type T]) Q E s :=
 call_isinstance (show Meets (Builtin.«isinstance» ⟨[.bytes b t,.type T],[]⟩) (fun _ R s => R (.ok (.ret (.bool false))) { s with toks:=s.toks + 1 }) from fun _ _ _ _ s hs => by
  obtain ⟨h,g,d,t,os⟩:=s
  exact isinstance_outer (isinstance_nested_false_bytes hne hty hsub hs)) h
theorem isinst_bytes_bytes {b:Array UInt8} {t:Tok} (h:Q (.bool true) s):wpAny (model prog w) A (call (.builtin "isinstance") [.bytes b t,.type "bytes"]) Q E s :=
 call_isinstance (isinstance_true (Tx:="bytes") (by first | exact F.isi_meta_bytes | (show typeOf _ = _;rfl)) F.bm_sub) ⟨typeIs_bytes _ _ _,h⟩
end
end MineL
namespace Mine
section
variable {sc:Scope} {d k:Nat} {ρ:List (Option V)} {σ σ₁ σ₂:List AO} {vs:List V} {ks ls:List Int} {a:Int}
theorem TE.gblt {j:Nat} {n:Str} {bv:Value} (hn:BN[j]? = some n) (hv:bootBuiltins n = some bv):TE sc d (.glob (74 + j)) ρ σ (.ext bv) σ:=by
 intro w h₀ A env pe ι P s E F C S Q k
 obtain ⟨_,_,rfl,h1,h2,h3⟩:=C
 rename_i n' _
 have e:n' = n:=by
  rw [List.getElem?_append_right (show GN.length ≤ 74 + j by rw [show GN.length = 74 by decide];omega),show GN.length = 74 by decide,show 74 + j - 74 = j by omega,hn] at h1
  exact (Option.some.inj h1).symm
 subst e
 exact wpAny_Name (ZeF F S (List.mem_of_getElem? hn) h2 hv (Ze S k s.toks _ .ext)) h3
theorem Zdm:OpV d (Fn (.builtin "isinstance")) [.int a,.ext (.type "int")] σ (.bool true) σ:=.two fun c ι P s x y R S r1 r2 Q kQ => by
 obtain ⟨t,rfl⟩:=r1.int';obtain rfl:=r2.ext'
 exact up (IsiPair.int_int (Ze S kQ s.toks _ .bool))
theorem ZfL:OpV d (Fn (.builtin "isinstance")) [.int a,.ext (.type "bool")] σ (.bool false) σ:=.two fun c ι P s x y R S r1 r2 Q kQ => by
 obtain ⟨t,rfl⟩:=r1.int';obtain rfl:=r2.ext'
 exact up (IsiPair.int_bool (Ze S kQ (s.toks + 1) _ .bool))
theorem Zfa:OpV d (Fn (.builtin "isinstance")) [.int a,.ext (.type "bytes")] σ (.bool false) σ:=.two fun c ι P s x y R S r1 r2 Q kQ => by
 obtain ⟨t,rfl⟩:=r1.int';obtain rfl:=r2.ext'
 exact up (IsiPair.int_bytes (Ze S kQ (s.toks + 1) _ .bool))
theorem ZfM:OpV d (Fn (.builtin "isinstance")) [.none,.ext (.type "int")] σ (.bool false) σ:=.two fun c ι P s x y R S r1 r2 Q kQ => by
 obtain rfl:=r1.none';obtain rfl:=r2.ext'
 exact up (IsiPair.NoneType_int (Ze S kQ (s.toks + 1) _ .bool))
theorem Zcg:OpV d (Fn (.builtin "isinstance")) [.none,.ext (.type "bytes")] σ (.bool false) σ:=.two fun c ι P s x y R S r1 r2 Q kQ => by
 obtain rfl:=r1.none';obtain rfl:=r2.ext'
 exact up (IsiPair.NoneType_bytes (Ze S kQ (s.toks + 1) _ .bool))
theorem ZcB:OpV d (Fn (.builtin "isinstance")) [.bytes ks,.ext (.type "int")] σ (.bool false) σ:=.two fun c ι P s x y R S r1 r2 Q kQ => by
 obtain ⟨b,t,rfl,_⟩:=r1.bytes';obtain rfl:=r2.ext'
 exact up (MineL.isinst_bytes_false (by decide) (by rfl) (by rw [isSubtype_type];kernel_rfl) (Ze S kQ (s.toks + 1) _ .bool))
theorem ZbY:OpV d (Fn (.builtin "isinstance")) [.bytes ks,.ext (.type "bytes")] σ (.bool true) σ:=.two fun c ι P s x y R S r1 r2 Q kQ => by
 obtain ⟨b,t,rfl,_⟩:=r1.bytes';obtain rfl:=r2.ext'
 exact up (MineL.isinst_bytes_bytes (Ze S kQ s.toks _ .bool))
theorem ZmX {v:V} (hl:IsL σ v (Za ks)):OpV d (Fn (.builtin "sum")) [v] σ (.int ks.sum) σ:=.one fun c ι P s x R S r1 Q kQ => by
 obtain ⟨q,items,n,rfl,e1,e2⟩:=hl.items S r1
 obtain ⟨m,F,B⟩:=S.rule
 have il:s.heap.IsList q items.toList.toArray:=by simpa using Zq e1
 refine up (PyProof.Rows.LSm.sum_ints F Zcz R.hand il e2.ints fun h' tk t' F' N' => ?_)
 exact kQ ι P h' tk (List.prefix_refl _) (.refl _) (B F' N').1 _ .int
theorem Zgl {u v:V} (hu:IsL σ u (Za ks)) (hv:IsL σ v (Za ls)):OpV d (Cmp .Eq) [u,v] σ (.bool (decide (ks = ls))) σ:=.two fun c ι P s x y R S r1 r2 Q kQ => by
 obtain ⟨q,items,n,rfl,e1,e2⟩:=hu.items S r1
 obtain ⟨q',items',n',rfl,f1,f2⟩:=hv.items S r2
 have il:s.heap.IsList q items.toList.toArray:=by simpa using Zq e1
 have jl:s.heap.IsList q' items'.toList.toArray:=by simpa using Zq f1
 exact up (eq_intsK il e2.ints jl f2.ints (by have:=R.units;omega) (Ze S kQ s.toks _ .bool))
theorem ZhC:OpV d (Cmp .In) [.int a,.tup (Za ks)] σ (.bool (ks.contains a)) σ:=.two fun c ι P s x y R S r1 r2 Q kQ => by
 obtain ⟨u,rfl⟩:=r1.int'
 obtain ⟨_,_,_,rfl,e,es⟩:=r2.tup'
 ·refine up (in_tuple_ints (by first | exact ⟨_,S.keep _ _ e,rfl,_,rfl⟩ | exact S.keep _ _ e) es.ints ?_)
  first
   | (rw [ZbF];exact Ze S kQ s.toks _ .bool)
   | exact Ze S kQ s.toks _ .bool
end
end Mine
end
namespace Mine
theorem ZmY:AN.Nodup:=by decide +kernel
theorem ZmZ {c c':Nat} {n:Str} (h:AN[c]? = some n) (h':AN[c']? = some n):c = c':=by
 have h1:c < AN.length:=by
  rcases Nat.lt_or_ge c AN.length with h | q
  ·exact h
  ·rw [List.getElem?_eq_none q] at h;cases h
 exact (List.getElem?_inj h1 ZmY).mp (h.trans h'.symm)
structure ClsHas (K:Frag) (C fI:Addr) (fs:List Nat) (ms:List (Nat × Addr)):Prop where
 makes:makesIn K C = true
 hasDict:hasDictIn K C = true
 plain:plainOver K C = true
 ga:findIn K (.ref C) "__getattribute__" = some (some (.builtin "object.__getattribute__"))
 gt:findIn K (.ref C) "__getattr__" = some none
 sa:findIn K (.ref C) "__setattr__" = some (some (.builtin "object.__setattr__"))
 init:findIn K (.ref C) "__init__" = some (some (.ref fI))
 initF:typeIn K (.ref fI) = some (.type "function")
 fields:∀ c ∈ fs,∀ n,AN[c]? = some n → findIn K (.ref C) n = some none
 meths:∀ p ∈ ms,∀ n,AN[p.1]? = some n → findIn K (.ref C) n = some (some (.ref p.2)) ∧ typeIn K (.ref p.2) = some (.type "function")
theorem Zea {K:Frag} (h:KF K = true) {C fI:Addr} {fs:List Nat} {ms:List (Nat × Addr)} (m:(C,fI,fs,ms) ∈ KT):ClsHas K C fI fs ms:=by
 have:=List.all_eq_true.mp h _ m
 simp only [KFc,Bool.and_eq_true,beq_iff_eq,List.all_eq_true] at this
 obtain ⟨⟨⟨⟨⟨⟨⟨⟨⟨h1,h2⟩,h3⟩,h4⟩,h5⟩,h6⟩,h7⟩,h8⟩,h9⟩,h10⟩:=this
 refine ⟨h1,h2,h3,h4,h5,h6,h7,h8,fun c hc n hn => ?_,fun p hp n hn => ?_⟩
 ·have:=h9 c hc
  rw [hn] at this
  simpa using this
 ·have:=h10 p hp
  rw [hn] at this
  simpa using this
noncomputable def Zbw (c:Nat):List (Nat × V) → Option V
 | [] => none
 | (c',v) :: fs => if c' = c then some v else Zbw c fs
noncomputable def ZC (c:Nat) (v:V):List (Nat × V) → List (Nat × V)
 | [] => [(c,v)]
 | (c',v') :: fs => if c' = c then (c,v) :: fs else (c',v') :: ZC c v fs
theorem Zlx {c:Nat}:∀ {fs:List (Nat × V)},(∀ p ∈ fs,p.1 ≠ c) → Zbw c fs = none
 | [],_ => rfl
 | (c',v) :: fs,h => by
  unfold Zbw
  rw [if_neg (h (c',v) (by simp))]
  exact Zlx fun p hp => h p (by simp [hp])
section
variable {ι:Ix} {P:Z2} {c:Nat} {n:Str}
theorem FRs.noRef:∀ {fs:List (Nat × V)} {es:List DictEntry},FRs ι P fs es → es.any (·.refKey) = false
 | _,_,.nil => rfl
 | _,_,.cons _ _ r => by rw [List.any_cons,r.noRef];rfl
theorem FRs.find (hn:AN[c]? = some n):∀ {fs:List (Nat × V)} {es:List DictEntry},FRs ι P fs es →
  (∀ v,Zbw c fs = some v → ∃ e,es.find? (·.key.isStr n) = some e ∧ VR ι P v e.val) ∧ (Zbw c fs = none → es.find? (·.key.isStr n) = none)
 | _,_,.nil => ⟨fun v h => (nomatch h),fun _ => rfl⟩
 | _,_,.cons (c:=c') (nm:=nm) (t:=t) (hsh:=hsh) (x:=x) h1 h2 h3 => by
  obtain ⟨i1,i2⟩:=FRs.find hn h3
  have q:(Value.str nm t).isStr n = (nm == n):=rfl
  unfold Zbw
  rw [List.find?_cons]
  dsimp only
  rw [q]
  by_cases e:c' = c
  ·subst e
   have:nm = n:=Option.some.inj (h1.symm.trans hn)
   subst this
   rw [if_pos rfl,beq_self_eq_true]
   exact ⟨fun v h => (by cases h;exact ⟨_,rfl,h2⟩),fun h => (by cases h)⟩
  ·have:(nm == n) = false:=by
    rw [beq_eq_false_iff_ne]
    intro z;subst z
    exact e (ZmZ h1 hn)
   rw [if_neg e,this]
   exact ⟨i1,i2⟩
theorem FRs.get {fs:List (Nat × V)} {es:List DictEntry} (r:FRs ι P fs es) (hn:AN[c]? = some n) {v:V} (h:Zbw c fs = some v):∃ x,getL n es = some (some x) ∧ VR ι P v x:=by
 obtain ⟨e,h1,h2⟩:=(r.find hn).1 v h
 exact ⟨e.val,by unfold getL;rw [h1],h2⟩
theorem FRs.getSome {fs:List (Nat × V)} {es:List DictEntry} (r:FRs ι P fs es):(getL n es).isSome = true:=by
 unfold getL
 split
 ·rfl
 ·rw [r.noRef];rfl
theorem FRs.getNone {fs:List (Nat × V)} {es:List DictEntry} (r:FRs ι P fs es) (hn:AN[c]? = some n) (h:Zbw c fs = none):getL n es = some none:=by
 unfold getL
 rw [(r.find hn).2 h]
 dsimp only
 rw [r.noRef];rfl
theorem FRs.put (hn:AN[c]? = some n) {hsh:Int} {t:Tok} {v:V} {x:Value} (hv:VR ι P v x):∀ {fs:List (Nat × V)} {es:List DictEntry},FRs ι P fs es → FRs ι P (ZC c v fs) (putL n hsh (.str n t) x es)
 | _,_,.nil => .cons hn hv .nil
 | _,_,.cons (c:=c') (nm:=nm) (t:=t') h1 h2 h3 => by
  have q:(Value.str nm t').isStr n = (nm == n):=rfl
  unfold ZC putL
  dsimp only
  rw [q]
  by_cases e:c' = c
  ·subst e
   have:nm = n:=Option.some.inj (h1.symm.trans hn)
   subst this
   rw [if_pos rfl,beq_self_eq_true,if_pos rfl]
   exact .cons h1 hv h3
  ·have:(nm == n) = false:=by
    rw [beq_eq_false_iff_ne]
    intro z;subst z
    exact e (ZmZ h1 hn)
   rw [if_neg e,this,if_neg (by decide)]
   exact .cons h1 h2 (FRs.put hn hv h3)
theorem ZfA {hsh:Int} {k x:Value}:∀ (es:List DictEntry),(putL n hsh k x es).length ≤ es.length + 1
 | [] => by simp [putL]
 | e :: es => by
  unfold putL
  split
  ·simp
  ·simpa using ZfA es
theorem FRs.length:∀ {fs:List (Nat × V)} {es:List DictEntry},FRs ι P fs es → fs.length = es.length
 | _,_,.nil => rfl
 | _,_,.cons _ _ r => by rw [List.length_cons,List.length_cons,r.length]
end
theorem Zie {ι P h C fs a d} (r:AOR ι P h (.inst C fs) a d):∃ es n,InstAt h a (instObj C d) C (some (dictOf es n)) ∧ h.get? d = some (dictOf es n) ∧ FRs ι P fs es:=by
 obtain ⟨e1,es,n,e2,e3⟩:=r
 exact ⟨es,n,⟨e1,rfl,rfl,e2⟩,e2,e3⟩
noncomputable def Zp6 (d:Nat) (n:Nat) (u:V) (σ:List AO) (v:V):Prop :=
 ∀ (c:Cx) ι P s x (nm:Str),Rm c.w c.h₀ c.A d → c.St ι P σ s.heap → VR ι P u x → AN[n]? = some nm → Zf6 c (getAttr x nm true) ι P v σ s
theorem VR.handed {ι P} {u:V} {x:Value} (h:VR ι P u x) (hx:∀ x,u ≠ .ext x):handedIn x = true:=by
 cases h <;> first | rfl | exact absurd rfl (hx _)
theorem ZA {d n k:Nat} {σ:List AO} {C fI:Addr} {fs:List (Nat × V)} {fn:List Nat} {ms:List (Nat × Addr)} {v:V} (hK:(C,fI,fn,ms) ∈ KT) (hn:n ∈ fn) (hk:σ[k]? = some (.inst C fs)) (hv:Zbw n fs = some v) (hx:∀ x,v ≠ .ext x):Zp6 d n (.ref k) σ v:=by
 intro c ι P s x nm R S r hnm Q kQ
 obtain ⟨K,X,hF⟩:=R.gl.kin
 have H:=Zea hF hK
 obtain ⟨a,dd,rfl,e⟩:=r.ref'
 obtain ⟨es,m,I,_,fr⟩:=Zie (S.objs _ _ _ _ hk e)
 obtain ⟨y,hy,hr⟩:=fr.get hnm hv
 refine up (get_value (X.keeps S.keep0) I H.ga (findObj_own H.hasDict (H.fields n hn nm hnm) rfl (by rw [lookIn_dict];exact hy)) ?_ (Ze S kQ (s.toks + 1) y hr))
 exact hr.handed hx
section
variable {sc:Scope} {d:Nat} {ρ ρ₁ ρ₂:List (Option V)} {σ σ₁ σ₂ σ₃:List AO}
theorem TE.attr {a:ME} {n:Nat} {u v:V} (h1:TE sc d a ρ σ u σ₁) (h2:Zp6 d n u σ₁ v):TE sc d (.attr a n) ρ σ v σ₁:=by
 intro w h₀ A env pe ι P s E F C S Q k
 obtain ⟨_,_,_,rfl,c1,c2,c3⟩:=C
 rw [arm_eval_Attribute,ZeG c2]
 refine wpAny_bind (h1 w h₀ A env _ ι P s E F c1 S _ ?_)
 intro ι₁ P₁ g₁ t₁ i₁ p₁ S₁ x hx
 refine wpAny_bind (wpAny_standAt (wpAny_bind (wpAny_holding ?_)))
 refine h2 (cx w h₀ A env sc ρ E) ι₁ P₁ { s with heap:=g₁,toks:=t₁ } x _ F.toRm S₁ hx c3 _ ?_
 intro ι₂ P₂ g₂ t₂ i₂ p₂ S₂ y hy
 exact wpAny_bind (wpAny_letTemporaryGo (wpAny_pure (k ι₂ P₂ g₂ t₂ (i₁.trans i₂) (p₁.trans p₂) S₂ y hy)))
theorem Zn {n k:Nat} {C fI f:Addr} {fs:List (Nat × V)} {fn:List Nat} {ms:List (Nat × Addr)} {sc':Scope} {m:Nat} {code:List MS} (hK:(C,fI,fn,ms) ∈ KT) (hn:(n,f) ∈ ms) (hk:σ[k]? = some (.inst C fs)) (hv:Zbw n fs = none) (hc:Zc f sc' m code):Zic d n (.ref k) σ (.ref f):=by
 obtain ⟨i,j,fi,h3,h4,_⟩:=hc
 refine ⟨fun w h₀ G => ⟨.frame,.inl rfl,ZeE G h3 h4⟩,?_⟩
 intro c ι P s x nm pl Q R S r hnm kQ
 obtain ⟨K,X,hF⟩:=R.gl.kin
 have H:=Zea hF hK
 obtain ⟨a,dd,rfl,e⟩:=r.ref'
 obtain ⟨es,q,I,_,fr⟩:=Zie (S.objs _ _ _ _ hk e)
 obtain ⟨m1,m2⟩:=H.meths _ hn nm hnm
 refine up (method_fn (X.keeps S.keep0) I H.ga H.gt m1 m2 ?_ (kQ s.toks))
 unfold shadowIn
 dsimp only
 rw [lookIn_dict,fr.getNone hnm hv]
 rfl
noncomputable def Zm0 (h:Heap) (xs:List Addr):List (Addr × Obj):=(List.range h.objs.size).filterMap fun a => if a ∈ xs then none else (h.get? a).map fun o => (a,o)
theorem Zm1 {h:Heap} {xs:List Addr} {a:Addr} {o:Obj} (e:h.get? a = some o) (n:a ∉ xs):(a,o) ∈ Zm0 h xs:=by
 unfold Zm0
 rw [List.mem_filterMap]
 exact ⟨a,List.mem_range.mpr (Heap.lt_size e),by rw [if_neg n,e];rfl⟩
theorem ZkP {h:Heap} {xs:List Addr} {q:Addr × Obj} (e:q ∈ Zm0 h xs):h.get? q.1 = some q.2 ∧ q.1 ∉ xs:=by
 unfold Zm0 at e
 rw [List.mem_filterMap] at e
 obtain ⟨a,_,e⟩:=e
 split at e
 ·cases e
 ·cases z:h.get? a with
  | none => rw [z] at e;cases e
  | some o => rw [z] at e;cases e;exact ⟨z,by assumption⟩
theorem ZhD {c:Cx} {ι:Ix} {P:Z2} {s:Shared} {n k:Nat} {nm:Str} {C fI:Addr} {fs:List (Nat × V)} {fn:List Nat} {ms:List (Nat × Addr)} {v:V} {x y:Value} {Q:Unit → Shared → Prop} (hK:(C,fI,fn,ms) ∈ KT) (hn:n ∈ fn) (hnm:AN[n]? = some nm) (hk:σ[k]? = some (.inst C fs)) (hl:fs.length ≤ 100)
  (G:Glob c.w c.h₀) (S:c.St ι P σ s.heap) (hx:VR ι P (.ref k) x) (hy:VR ι P v y)
  (kQ:∀ h' tk,c.St ι P (σ.set k (.inst C (ZC n v fs))) h' → Q () { s with heap:=h',toks:=tk }):wpAny (model pw c.w) c.A (setAttr x nm y) Q c.E s:=by
 obtain ⟨K,X,hF⟩:=G.kin
 have H:=Zea hF hK
 obtain ⟨a,dd,rfl,e⟩:=hx.ref'
 have r:=S.objs _ _ _ _ hk e
 obtain ⟨es,q,I,hd,fr⟩:=Zie r
 obtain ⟨o1,o2,o3,o4⟩:=S.sep.off k a dd e
 obtain ⟨m,hm,hv⟩:=S.ns
 have FF:Fr H0 c.L s.heap m:=⟨hm,fun b o e => (by rw [Zev] at e;cases e),by simp [H0]⟩
 have NN:News H0 c.L s.heap ([] ++ (dd,dictOf es q) :: Zm0 s.heap [c.L,dd]):=fun p hp => by
  rcases List.mem_cons.mp hp with rfl | hp
  ·exact ⟨hd,o4,Zev _⟩
  ·obtain ⟨z1,z2⟩:=ZkP hp
   exact ⟨z1,fun z => z2 (by simp [z]),Zev _⟩
 refine up (set_plain (X.keeps S.keep0) I H.sa (osa_dict (s:={ s with toks:=s.toks + 1 }) (es:=putL nm (PyData.keyHash c.w.params nm) (.str nm (s.toks + 1)) y es) (n:=putN nm es q) FF NN (X.keeps S.keep0) I rfl H.plain ?_ H.hasDict ?_ (fun p hp => nomatch hp) (fun p hp z => (ZkP hp).2 (by simp [z])) (by rw [putName_dict]) rfl ?_ ?_))
 ·unfold takerIn
  rw [H.fields n hn nm hnm]
  rfl
 ·rw [lookIn_dict];exact fr.getSome
 ·have:=ZfA (n:=nm) (hsh:=PyData.keyHash c.w.params nm) (k:=.str nm (s.toks + 1)) (x:=y) es
  have:=fr.length
  omega
 ·intro h' F' N'
  have same:∀ b o,b ≠ c.L → b ≠ dd → s.heap.get? b = some o → h'.get? b = some o:=fun b o b1 b2 eb => (N' _ (.tail _ (Zm1 eb (by simp [b1,b2])))).1
  have hne:a ≠ dd:=fun z => by
   subst z
   have:=r.1
   rw [hd] at this
   cases this
  have S1:c.St ι P (σ.set k (.inst C (ZC n v fs))) h':=by
   refine ⟨S.base,fun b o eb => same b o (fun z => by subst z;rw [S.sep.PL] at eb;cases eb) (fun z => by subst z;rw [o2] at eb;cases eb) (S.keep b o eb),⟨m,F'.ns,hv⟩,by simp [S.len],fun i ao x' y' e1 e2 => ?_,S.sep⟩
   by_cases hi:i = k
   ·subst hi
    rw [e] at e2;cases e2
    have:i < σ.length:=by
     rcases Nat.lt_or_ge i σ.length with z | z
     ·exact z
     ·rw [List.getElem?_eq_none (by simpa using z)] at e1;cases e1
    rw [List.getElem?_set_self this] at e1
    cases e1
    exact ⟨same _ _ o3 hne r.1,_,_,(N' _ (.head _)).1,fr.put hnm hy⟩
   ·rw [List.getElem?_set_ne (Ne.symm hi)] at e1
    obtain ⟨q1,q2,q3,q4⟩:=S.sep.apart i k x' y' a dd e2 e hi
    obtain ⟨_,_,z3,z4⟩:=S.sep.off i x' y' e2
    exact (S.objs i ao x' y' e1 e2).same (List.prefix_refl _) (.refl _) (fun o eo => same _ _ z3 q2 eo) fun o eo => same _ _ z4 q4 eo
  exact kQ h' _ S1
end
section
variable {sc:Scope} {d:Nat} {ρ ρ₁ ρ₂:List (Option V)} {σ σ₁ σ₂ σ₃:List AO}
theorem TA.attr {i n k:Nat} {C fI:Addr} {fs:List (Nat × V)} {fn:List Nat} {ms:List (Nat × Addr)} {v:V} (h0:ρ[i]? = some (some (.ref k))) (hk:σ[k]? = some (.inst C fs)) (hK:(C,fI,fn,ms) ∈ KT) (hn:n ∈ fn) (hl:fs.length ≤ 100:=by decide) :
  TA sc d (.attr i n) v ρ σ ρ (σ.set k (.inst C (ZC n v fs))):=by
 intro w h₀ A env pe ι P s E x F C S hr Q kQ
 obtain ⟨_,_,_,_,rfl,h1,h2,h3,h4⟩:=C
 obtain ⟨m,hm,hv⟩:=S.ns
 obtain ⟨y,hy,hyr⟩:=hv i _ _ h1 h0
 rw [arm_assign_Attribute]
 refine wpAny_bind (wpAny_holding (wpAny_Name (up (wpAny_loadName_local (by rw [F.scope];exact F.kind) (by rw [Env.kindOf,F.scope];exact h2) hm hy ?_)) h3))
 refine wpAny_bind (wpAny_standAt (wpAny_bind (wpAny_holding (ZhD (c:=cx w h₀ A env sc ρ E) hK hn h4 hk hl F.gl S hyr hr fun h' tk S' => ?_))))
 exact wpAny_release (kQ ι P h' tk (List.prefix_refl _) (.refl _) S')
theorem TS.auga {i n k:Nat} {C fI:Addr} {fs:List (Nat × V)} {fn:List Nat} {ms:List (Nat × Addr)} {op:Operator} {e:ME} {u v r:V} (h0:ρ[i]? = some (some (.ref k))) (hg:Zp6 d n (.ref k) σ u) (h1:TE sc d e ρ σ v σ₁)
  (h3:OpV d (Inp op) [u,v] σ₁ r σ₂) (hk:σ₂[k]? = some (.inst C fs)) (hK:(C,fI,fn,ms) ∈ KT) (hn:n ∈ fn) (hl:fs.length ≤ 100:=by decide):TS sc d (.auga i n op e) ρ σ (.next ρ) (σ₂.set k (.inst C (ZC n r fs))):=by
 intro w h₀ A env pe ι P s E F C S Q kQ
 obtain ⟨_,_,_,_,_,_,rfl,n1,n2,n3,n4,c1⟩:=C
 obtain ⟨m,hm,hv⟩:=S.ns
 obtain ⟨y,hy,hyr⟩:=hv i _ _ n1 h0
 refine ZbE (wpAny_Name (up (wpAny_loadName_local (by rw [F.scope];exact F.kind) (by rw [Env.kindOf,F.scope];exact n2) hm hy ?_)) n3)
 refine hg (cx w h₀ A env sc ρ E) ι P s y _ F.toRm S hyr n4 _ ?_
 intro ι₁ P₁ g₁ t₁ i₁ p₁ S₁ z hz
 refine h1 w h₀ A env _ ι₁ P₁ { s with heap:=g₁,toks:=t₁ } E F c1 S₁ _ ?_
 intro ι₂ P₂ g₂ t₂ i₂ p₂ S₂ z₂ hz₂
 refine h3 (cx w h₀ A env sc ρ E) ι₂ P₂ { s with heap:=g₂,toks:=t₂ } _ F.toRm S₂ (.cons (hz.mono i₂ p₂) (.cons hz₂ .nil)) _ ?_
 intro ι₃ P₃ g₃ t₃ i₃ p₃ S₃ z₃ hz₃
 refine ZhD (c:=cx w h₀ A env sc ρ E) (s:={ s with heap:=g₃,toks:=t₃ }) hK hn n4 hk hl F.gl S₃ (hyr.mono (i₁.trans (i₂.trans i₃)) (p₁.trans (p₂.trans p₃))) hz₃ fun h' tk S' => ?_
 exact kQ ι₃ P₃ h' tk (i₁.trans (i₂.trans i₃)) (p₁.trans (p₂.trans p₃)) S' _ .next
theorem TS.expr {e:ME} {v:V} (h1:TE sc d e ρ σ v σ₁):TS sc d (.expr e) ρ σ (.next ρ) σ₁:=by
 intro w h₀ A env pe ι P s E F C S Q kQ
 obtain ⟨_,_,rfl,c1,c2⟩:=C
 refine Zdg (h1 w h₀ A env _ ι P s E F c1 S _ ?_) ?_ ?_
 ·intro ι₁ P₁ g₁ t₁ i₁ p₁ S₁ x hx
  exact kQ ι₁ P₁ g₁ t₁ i₁ p₁ S₁ _ .next
 ·unfold interactive
  rw [F.scope,F.kind]
  rfl
 ·exact ZkM c2
theorem Zgm {C fI:Addr} {fn:List Nat} {ms:List (Nat × Addr)} {n k:Nat} {code:List MS} {vs:List V} {g:List AO} {fs:List (Nat × V)} {o:Out} (hK:(C,fI,fn,ms) ∈ KT) (hc:Zc fI sc n code) (hn:vs.length + 1 = n)
  (hb:TSs sc d code (some (.ref σ.length) :: vs.map some ++ List.replicate k none) (σ ++ [.inst C []]) o (σ ++ [.inst C fs] ++ g)) (ho:o.gives .none) (hf:Fs.lt (σ.length + 1) fs):OpV (d + 1) (Fn (.ref C)) vs σ (.ref σ.length) (σ ++ [.inst C fs]):=by
 intro c ι P s xs R S hx Q kQ
 obtain ⟨i,j,fi,hft,hfi,hok,hoa,hlen,hsc,hcs⟩:=hc
 obtain ⟨o1,o2,o3,o4,o5,o6,o7⟩:=Zbh hok
 obtain ⟨pm,cdv,oc,osl,hat,hcd⟩:=R.gl.fn fI i j fi hft hfi
 have hnd:(fi.args.args.map (·.arg)).Nodup:=by
  rw [← o6]
  exact List.Sublist.nodup (List.take_sublist _ _) o5
 subst hsc
 have h1:=R.depth
 have h2:=R.units
 obtain ⟨K,X,hF⟩:=R.gl.kin
 have H:=Zea hF hK
 have kp:∀ b o,s.heap.get? b = some o → ((s.heap.push emptyDict).push (instObj C s.heap.objs.size)).get? b = some o:=fun b o e => Heap.get?_push_of_some _ (Heap.get?_push_of_some _ e)
 have kp':∀ b o,c.h₀.get? b = some o → ((s.heap.push emptyDict).push (instObj C s.heap.objs.size)).get? b = some o:=fun b o e => kp b o (S.keep0 b o e)
 have hPf:∀ b,s.heap.objs.size ≤ b → P b = none:=fun b hb => by
  cases e:P b with
  | none => rfl
  | some o => exact absurd (Heap.lt_size (S.keep _ _ e)) (Nat.not_lt.mpr hb)
 have hIf:∀ b,s.heap.objs.size ≤ b → ∀ (i:Nat) (y z:Addr),ι[i]? = some (y,z) → b ≠ y ∧ b ≠ z:=fun b hb i y z e =>
  ⟨fun q => (by subst q;exact absurd (S.freshI e).1 (Nat.not_lt.mpr hb)),fun q => (by subst q;exact absurd (S.freshI e).2 (Nat.not_lt.mpr hb))⟩
 have hLf:∀ b,s.heap.objs.size ≤ b → b ≠ c.L:=fun b hb q => by subst q;exact absurd S.ltL (Nat.not_lt.mpr hb)
 have hx1:((s.heap.push emptyDict).push (instObj C s.heap.objs.size)).get? (s.heap.objs.size + 1) = some (instObj C s.heap.objs.size):=by
  have:=Heap.get?_push_size (s.heap.push emptyDict) (o:=instObj C s.heap.objs.size) rfl
  rwa [Heap.size_push] at this
 have hd1:((s.heap.push emptyDict).push (instObj C s.heap.objs.size)).get? s.heap.objs.size = some emptyDict:=Heap.get?_push_of_some _ (Heap.get?_push_size _ rfl)
 have S2:=S.grow (h':=(s.heap.push emptyDict).push (instObj C s.heap.objs.size)) (a:=s.heap.objs.size + 1) (d:=s.heap.objs.size) (ao:=.inst C []) kp ⟨hPf _ (Nat.le_succ _),hLf _ (Nat.le_succ _),hIf _ (Nat.le_succ _)⟩
  ⟨hPf _ (Nat.le_refl _),hLf _ (Nat.le_refl _),hIf _ (Nat.le_refl _)⟩ ⟨hx1,[],0,hd1,.nil⟩
 refine wpAny_call (Ze6 (makes_of (X.keeps S.keep0) H.makes) (looks_findIn (X.keeps S.keep0) H.init) (fun self => bind_fn (X.keeps S.keep0) self H.initF) ?_)
 generalize hhx:s.heap.objs.size + 1 = x at S2 hx1 ⊢
 generalize hhd:s.heap.objs.size = dx at S2 hx1 hd1 kp kp' ⊢
 generalize hhh:(s.heap.push emptyDict).push (instObj C dx) = h' at S2 hx1 hd1 kp kp' ⊢
 have hnl:xs.length = vs.length:=hx.length.symm
 have hlen':fi.args.args.length = (V.ref σ.length :: vs).length:=by rw [hlen,← hn];rfl
 have hbind:=Zbg (name:=fi.name) (qual:=fi.qual) (body:=fi.body) (scope:=fi.scope) (pm:=pm) (cdv:=cdv) (xs:=.ref x :: xs) hoa (by rw [hlen'];simp [hnl]) hnd
 have pr:ι <+: ι ++ [(x,dx)]:=List.prefix_append _ _
 have hsl:ι.length = σ.length:=S.len
 have wgt:(Code.builtin "type.__call__" ⟨.ref C :: xs,[]⟩).weight = 1:=by kernel_rfl
 have cun:(Code.builtin "type.__call__" ⟨.ref C :: xs,[]⟩).cUnits = 1:=by kernel_rfl
 have hat':=kp' _ _ hat
 have hcd':=hcd.keeps kp'
 exact ZfY (c:={ c with A:=c.A.under (.builtin "type.__call__" ⟨.ref C :: xs,[]⟩) }) (s:={ s with heap:=h' }) (v:=.none) hok hcs hlen' rfl hb ho (by simp) (by simp [V.lt]) (fun k' ao e => by
  rw [List.getElem?_append] at e ⊢
  split at e
  ·rename_i q
   rw [if_pos q];exact .inl e
  ·rename_i q
   have:k' - σ.length = 0:=by
    cases z:k' - σ.length with
    | zero => rfl
    | succ n => rw [z] at e;simp at e
   rw [this] at e
   cases e
   exact .inr (by rw [List.length_append];exact hf)) R.gl (by
  show c.A.depth + Code.weight _ + 2 * d + 5 ≤ recursionLimit
  rw [wgt];omega) (by
  show c.A.units + Code.cUnits _ + 8 * d + 73 ≤ cLine
  rw [cun];omega) R.hand S2 (.cons (.ref (d:=dx) (by rw [← hsl];simp)) (hx.mono pr (.refl _))) hat' hcd' (BindsTo.of_eq hbind) fun ι' P' h'' tk i' p' S3 y hy => by
  obtain rfl:=hy.none'
  exact ⟨rfl,kQ ι' P' h'' tk (pr.trans i') p' S3 _ (.ref (d:=dx) (ZbL i' (by rw [← hsl];simp)))⟩
end
section
variable {sc:Scope} {d:Nat} {ρ ρ₁ ρ₂:List (Option V)} {σ σ₁ σ₂ σ₃:List AO} {v:V} {r1 r2:Bool} {o:Out}
theorem TE.eqv {e:ME} {v':V} (h:TE sc d e ρ σ v σ₁) (q:v = v'):TE sc d e ρ σ v' σ₁:=q ▸ h
theorem TB.eqv {e:ME} {b':Bool} (h:TB sc d e ρ σ r1 σ₁) (q:r1 = b'):TB sc d e ρ σ b' σ₁:=q ▸ h
theorem OpV.eqv {f:List Value → Sem Value} {as:List V} {v':V} (h:OpV d f as σ v σ₁) (q:v = v'):OpV d f as σ v' σ₁:=q ▸ h
theorem TE.chain {o1 o2:CmpOp} {a b c:ME} {x y z:V} (h1:TE sc d a ρ σ x σ) (h2:TE sc d b ρ σ y σ) (h3:OpV d (Cmp o1) [x,y] σ (.bool r1) σ) (h4:TE sc d c ρ σ z σ) (h5:OpV d (Cmp o2) [y,z] σ (.bool r2) σ) :
  TE sc d (.cmp a [o1,o2] [b,c]) ρ σ (.bool (r1 && r2)) σ:=by
 cases r1 with
 | false => exact TE.cmp2_f h1 h2 h3
 | true => exact TE.cmp2 h1 h2 h3 h4 h5
theorem TB.chain {o1 o2:CmpOp} {a b c:ME} {x y z:V} (h1:TE sc d a ρ σ x σ) (h2:TE sc d b ρ σ y σ) (h3:OpV d (Cmp o1) [x,y] σ (.bool r1) σ) (h4:TE sc d c ρ σ z σ) (h5:OpV d (Cmp o2) [y,z] σ (.bool r2) σ) :
  TB sc d (.cmp a [o1,o2] [b,c]) ρ σ (r1 && r2) σ:=by
 cases r1 with
 | false => exact TB.cmp2_f h1 h2 h3
 | true => exact TB.cmp2 h1 h2 h3 h4 h5
theorem TBs.and' {e:ME} {es:List ME} (h1:TB sc d e ρ σ r1 σ) (h2:r1 = true → TBs sc d .And es ρ σ r2 σ):TBs sc d .And (e :: es) ρ σ (r1 && r2) σ:=by
 cases r1 with
 | false => exact TBs.and_f h1
 | true => exact TBs.and_t h1 (h2 rfl)
theorem TBs.or' {e:ME} {es:List ME} (h1:TB sc d e ρ σ r1 σ) (h2:r1 = false → TBs sc d .Or es ρ σ r2 σ):TBs sc d .Or (e :: es) ρ σ (r1 || r2) σ:=by
 cases r1 with
 | false => exact TBs.or_f h1 (h2 rfl)
 | true => exact TBs.or_t h1
theorem TE.ite' {c a b:ME} {x y:V} (h1:TB sc d c ρ σ r1 σ) (h2:r1 = true → TE sc d a ρ σ x σ) (h3:r1 = false → TE sc d b ρ σ y σ):TE sc d (.ite c a b) ρ σ (if r1 then x else y) σ:=by
 cases r1 with
 | false => exact TE.ite_f h1 (h3 rfl)
 | true => exact TE.ite_t h1 (h2 rfl)
theorem TSs.if_ret {c:ME} {a b rest:List MS} {v:V} (h1:TB sc d c ρ σ true σ₁) (h2:TSs sc d a ρ σ₁ (.ret v) σ₂):TSs sc d (.ife c a b :: rest) ρ σ (.ret v) σ₂:=TSs.stop (TS.if_t h1 h2) trivial
theorem TSs.if_go {c:ME} {a rest:List MS} (h1:TB sc d c ρ σ false σ₁) (h2:TSs sc d rest ρ σ₁ o σ₂):TSs sc d (.ife c a [] :: rest) ρ σ o σ₂:=TSs.cons (TS.if_f h1 TSs.nil) h2
theorem TSs.if_do {c:ME} {a b rest:List MS} (h1:TB sc d c ρ σ true σ₁) (h2:TSs sc d a ρ σ₁ (.next ρ₁) σ₂) (h3:TSs sc d rest ρ₁ σ₂ o σ₃):TSs sc d (.ife c a b :: rest) ρ σ o σ₃:=TSs.cons (TS.if_t h1 h2) h3
theorem TSs.if_else {c:ME} {a b rest:List MS} (h1:TB sc d c ρ σ false σ₁) (h2:TSs sc d b ρ σ₁ (.next ρ₁) σ₂) (h3:TSs sc d rest ρ₁ σ₂ o σ₃):TSs sc d (.ife c a b :: rest) ρ σ o σ₃:=TSs.cons (TS.if_f h1 h2) h3
theorem TSs.ret {e:ME} {rest:List MS} (h:TE sc d e ρ σ v σ₁):TSs sc d (.ret (some e) :: rest) ρ σ (.ret v) σ₁:=TSs.stop (TS.ret h) trivial
theorem TSs.set {i:Nat} {e:ME} {rest:List MS} (h1:TE sc d e ρ σ v σ₁) (h2:TSs sc d rest (ρ.set i (some v)) σ₁ o σ₂) (hp:ZbX e = true:=by rfl):TSs sc d (.assign (.loc i) e :: rest) ρ σ o σ₂ :=
 TSs.cons (TS.assign h1 TA.loc hp rfl) h2
theorem TSs.do {e:ME} {rest:List MS} (h1:TE sc d e ρ σ v σ₁) (h2:TSs sc d rest ρ σ₁ o σ₂):TSs sc d (.expr e :: rest) ρ σ o σ₂:=TSs.cons (TS.expr h1) h2
theorem ZhE {w:World} {h₀:Heap} {C fI:Addr} {fn:List Nat} {ms:List (Nat × Addr)} (G:Glob w h₀) (hK:(C,fI,fn,ms) ∈ KT):Looks (model pw w) h₀ (keeperOf (.ref C)) .machine:=by
 obtain ⟨K,X,hF⟩:=G.kin
 have H:=Zea hF hK
 have Y:=makes_of (M:=model pw w) X H.makes
 obtain ⟨oc,od,cd,sl,hC,_⟩:=Y.obj
 unfold keeperOf
 refine (Looks.ld (part:=none) hC).andThen ?_
 dsimp only
 refine Y.call.andThen ?_
 exact Looks.of_pure rfl
theorem TE.cls {f:Nat} {as:List ME} {C fI:Addr} {fn:List Nat} {ms:List (Nat × Addr)} {vs:List V} (hg:GV[f]? = some (.ext (.ref C))) (hK:(C,fI,fn,ms) ∈ KT) (h1:TEs sc d as ρ σ vs σ₁) (h2:OpV d (Fn (.ref C)) vs σ₁ v σ₂):TE sc d (.call f as) ρ σ v σ₂ :=
 TE.call hg (fun _ _ G => ZhE G hK) (.inr rfl) h1 h2
theorem TE.ord {c:Nat} {s:Str} (hs:s = ⟨#[c]⟩):TE sc d (.call 82 [.cst (.str s)]) ρ σ (.int c) σ:=by
 subst hs
 intro w h₀ A env pe ι P s E F C S Q k
 obtain ⟨n',_,_,_,rfl,c1,c2,c3,c4,c5⟩:=C
 have e:n' = (Str.ofString "ord"):=by
  have:(GN ++ BN)[82]? = some (Str.ofString "ord"):=by decide +kernel
  rw [c1] at this
  exact Option.some.inj this
 subst e
 refine ZaO rfl (wpAny_Name (ZeF F S (by decide +kernel) c2 (bv:=.builtin "ord") (by decide +kernel) ?_) c3)
 refine ZL (h:=h₀) c4 c5 (Ze9 rfl) (.inr rfl) ?_
 obtain ⟨_,_,rfl,d1,d2⟩:=c4
 cases d2
 obtain ⟨_,_,rfl⟩:=d1
 refine Zbd (up (PySem.wpAny_Constant_str (wpAny_items_nil ⟨S.keep0,?_⟩))) rfl
 exact up (PySem.P.ord_of_char (Ze S k (s.toks + 2) _ .int))
end
noncomputable def Zb (i:Nat) (j:Option Nat):Scope:=match ZdQ i j with
 | some fi => fi.scope
 | none => default
theorem Zd {a i n:Nat} {j:Option Nat} {ms:List MS} (h1:(a,i,j) ∈ FT) (h2:(match ZdQ i j with | some fi => (Zlv fi && Zib fi.args,fi.args.args.length,(cSs fi.scope fi.body).map (·.1)) | none => (false,0,none)) = (true,n,some ms)):Zc a (Zb i j) n ms:=by
 unfold Zc Zb
 cases e:ZdQ i j with
 | none => rw [e] at h2;simp at h2
 | some fi =>
  rw [e] at h2
  simp only [Prod.mk.injEq,Bool.and_eq_true] at h2
  obtain ⟨⟨_,hc⟩,_,rfl⟩:=Option.map_eq_some_iff.mp h2.2.2
  exact ⟨i,j,fi,h1,e,h2.1.1,h2.1.2,h2.2.1,rfl,hc⟩
noncomputable def Zch:List MS:=[
 (.assign (.attr 0 0) (.loc 1)),
 (.assign (.attr 0 1) (.loc 2)),
 (.assign (.attr 0 2) (.loc 3)),
 (.assign (.attr 0 3) (.loc 4)),
 (.assign (.attr 0 4) (.loc 5)),
 (.assign (.attr 0 5) (.loc 6)),
 (.assign (.attr 0 6) (.loc 7)),
 (.assign (.attr 0 7) (.loc 8)),
 (.assign (.attr 0 8) (.loc 9)),
 (.assign (.attr 0 9) (.loc 10))]
noncomputable def ZdS:List MS:=[
 (.assign (.attr 0 16) (.loc 1)),
 (.assign (.attr 0 17) (.lst []))]
theorem Zcu:Zc 71 (Zb 4 (some 0)) 2 ZdS:=Zd (by decide) (by kernel_rfl)
noncomputable def ZiZ:List MS:=[
 (.ret (some (.bool .And [(.call 78 [(.loc 0),(.glob 85)]),(.un .Not (.call 78 [(.loc 0),(.glob 86)]))])))]
theorem ZE:Zc 96 (Zb 6 none) 1 ZiZ:=Zd (by decide) (by kernel_rfl)
noncomputable def Zp7:List MS:=[
 (.assign (.loc 2) (.bin .BitAnd (.loc 0) (.bin .Sub (.bin .LShift (.cst (.int (1))) (.loc 1)) (.cst (.int (1)))))),
 (.ife (.cmp (.loc 2) [.GtE] [(.bin .LShift (.cst (.int (1))) (.bin .Sub (.loc 1) (.cst (.int (1)))))]) [(.ret (some (.bin .Sub (.loc 2) (.bin .LShift (.cst (.int (1))) (.loc 1)))))] []),
 (.ret (some (.loc 2)))]
theorem ZfB:Zc 103 (Zb 7 none) 2 Zp7:=Zd (by decide) (by kernel_rfl)
noncomputable def Zgn:List MS:=[
 (.ret (some (.cmp (.loc 0) [.In] [(.glob 15)])))]
theorem Zc0:Zc 110 (Zb 8 none) 1 Zgn:=Zd (by decide) (by kernel_rfl)
noncomputable def Zgo:List MS:=[
 (.ife (.cmp (.cst (.int (48))) [.LtE,.LtE] [(.loc 0),(.cst (.int (57)))]) [(.ret (some (.bin .Sub (.loc 0) (.cst (.int (48))))))] []),
 (.ife (.cmp (.cst (.int (97))) [.LtE,.LtE] [(.loc 0),(.cst (.int (122)))]) [(.ret (some (.bin .Sub (.loc 0) (.cst (.int (87))))))] []),
 (.ife (.cmp (.cst (.int (65))) [.LtE,.LtE] [(.loc 0),(.cst (.int (90)))]) [(.ret (some (.bin .Sub (.loc 0) (.cst (.int (55))))))] []),
 (.ret (some (.un .USub (.cst (.int (1))))))]
theorem Zc1:Zc 117 (Zb 10 none) 1 Zgo:=Zd (by decide) (by kernel_rfl)
noncomputable def Zg8:List MS:=[
 (.assign (.loc 3) (.cst (.int (0)))),
 (.while (.cmp (.loc 1) [.Lt] [(.call 75 [(.loc 0)])]) [(.assign (.loc 4) (.call 1 [(.sub (.loc 0) (.loc 1))])),(.ife (.bool .Or [(.cmp (.loc 4) [.Lt] [(.cst (.int (0)))]),(.cmp (.loc 4) [.GtE] [(.loc 2)])]) [.brk] []),(.assign (.loc 3) (.bin .Add (.bin .Mult (.loc 3) (.loc 2)) (.loc 4))),(.assign (.loc 1) (.bin .Add (.loc 1) (.cst (.int (1)))))]),
 (.ret (some (.tup [(.loc 3),(.loc 1)])))]
theorem ZbZ:Zc 124 (Zb 11 none) 3 Zg8:=Zd (by decide) (by kernel_rfl)
noncomputable def Zg9:List MS:=[
 (.while (.bool .And [(.cmp (.loc 1) [.Lt] [(.call 75 [(.loc 0)])]),(.call 0 [(.sub (.loc 0) (.loc 1))])]) [(.assign (.loc 1) (.bin .Add (.loc 1) (.cst (.int (1)))))]),
 (.ret (some (.loc 1)))]
theorem ZaJ:Zc 131 (Zb 12 none) 2 Zg9:=Zd (by decide) (by kernel_rfl)
noncomputable def ZfN:List MS:=[
 (.ret (some (.call 5 [(.loc 0),(.cst (.int (0))),(.loc 1)])))]
theorem Zbx:Zc 138 (Zb 13 none) 2 ZfN:=Zd (by decide) (by kernel_rfl)
noncomputable def Zgp:List MS:=[
 (.assign (.tup [(.loc 3),(.loc 4)]) (.tup [(.call 3 [(.loc 0),(.cst (.int (0)))]),(.cst (.bool false))])),
 (.ife (.bool .And [(.cmp (.loc 3) [.Lt] [(.call 75 [(.loc 0)])]),(.cmp (.sub (.loc 0) (.loc 3)) [.In] [(.cst (.bytes [43,45]))])]) [(.assign (.loc 4) (.cmp (.sub (.loc 0) (.loc 3)) [.Eq] [(.cst (.int (45)))])),(.assign (.loc 3) (.bin .Add (.loc 3) (.cst (.int (1)))))] []),
 (.assign (.loc 5) (.bool .And [(.cmp (.bin .Add (.loc 3) (.cst (.int (2)))) [.Lt] [(.call 75 [(.loc 0)])]),(.cmp (.sub (.loc 0) (.loc 3)) [.Eq] [(.cst (.int (48)))]),(.cmp (.sub (.loc 0) (.bin .Add (.loc 3) (.cst (.int (1))))) [.In] [(.cst (.bytes [120,88]))]),(.cmp (.loc 1) [.In] [(.tup [(.cst (.int (0))),(.cst (.int (16)))])])])),
 (.ife (.bool .And [(.loc 5),(.cmp (.cst (.int (0))) [.LtE,.Lt] [(.call 1 [(.sub (.loc 0) (.bin .Add (.loc 3) (.cst (.int (2)))))]),(.cst (.int (16)))])]) [(.assign (.tup [(.loc 3),(.loc 1)]) (.tup [(.bin .Add (.loc 3) (.cst (.int (2)))),(.cst (.int (16)))]))] []),
 (.assign (.tup [(.loc 6),(.loc 7)]) (.call 2 [(.loc 0),(.loc 3),(.ite (.cmp (.loc 1) [.Eq] [(.cst (.int (0)))]) (.cst (.int (10))) (.loc 1))])),
 (.ife (.bool .Or [(.cmp (.loc 7) [.Eq] [(.loc 3)]),(.cmp (.call 3 [(.loc 0),(.loc 7)]) [.NotEq] [(.call 75 [(.loc 0)])])]) [(.ret (some (.cst .none)))] []),
 (.ret (some (.call 14 [(.ite (.loc 4) (.un .USub (.loc 6)) (.loc 6)),(.attr (.loc 2) 0)])))]
theorem ZbJ:Zc 145 (Zb 14 none) 3 Zgp:=Zd (by decide) (by kernel_rfl)
noncomputable def Zi0:List MS:=[
 (.ife (.call 13 [(.loc 0)]) [(.ret (some (.loc 0)))] []),
 (.ife (.call 78 [(.loc 0),(.glob 76)]) [(.ret (some (.call 4 [(.loc 0),(.loc 1)])))] []),
 (.ret (some (.cst .none)))]
theorem Zaz:Zc 152 (Zb 15 none) 2 Zi0:=Zd (by decide) (by kernel_rfl)
noncomputable def Zha:List MS:=[
 (.assign (.tup [(.loc 1),(.loc 2)]) (.tup [(.call 74 [(.loc 0)]),(.lst [])])),
 (.while (.cmp (.loc 1) [.Gt] [(.cst (.int (9)))]) [(.expr (.callm (.loc 2) 28 [(.bin .Add (.cst (.int (48))) (.bin .Mod (.loc 1) (.cst (.int (10)))))])),(.assign (.loc 1) (.bin .FloorDiv (.loc 1) (.cst (.int (10)))))]),
 (.expr (.callm (.loc 2) 28 [(.bin .Add (.cst (.int (48))) (.loc 1))])),
 (.ife (.cmp (.loc 0) [.Lt] [(.cst (.int (0)))]) [(.expr (.callm (.loc 2) 28 [(.cst (.int (45)))]))] []),
 (.expr (.callm (.loc 2) 30 [])),
 (.ret (some (.call 76 [(.loc 2)])))]
theorem Zb0:Zc 159 (Zb 16 none) 1 Zha:=Zd (by decide) (by kernel_rfl)
noncomputable def Zly:List MS:=[
 (.ife (.call 78 [(.loc 0),(.glob 76)]) [(.ret (some (.loc 0)))] []),
 (.ife (.call 13 [(.loc 0)]) [(.ret (some (.call 7 [(.loc 0)])))] []),
 (.ret (some (.cst .none)))]
theorem ZaZ:Zc 166 (Zb 17 none) 1 Zly:=Zd (by decide) (by kernel_rfl)
noncomputable def Zm2:List MS:=[
 (.assign (.loc 1) (.cst (.int (0)))),
 (.while (.bool .And [(.cmp (.loc 1) [.Lt] [(.call 75 [(.loc 0)])]),(.cmp (.sub (.loc 0) (.loc 1)) [.NotEq] [(.cst (.int (0)))])]) [(.assign (.loc 1) (.bin .Add (.loc 1) (.cst (.int (1)))))]),
 (.ret (some (.slc (.loc 0) none (some (.loc 1)))))]
theorem Zd1:Zc 173 (Zb 18 none) 1 Zm2:=Zd (by decide) (by kernel_rfl)
noncomputable def Zif:List MS:=[
 (.assign (.loc 1) (.cst (.int (0)))),
 (.while (.bool .And [(.cmp (.loc 1) [.Lt] [(.call 75 [(.loc 0)])]),(.cmp (.sub (.loc 0) (.loc 1)) [.NotEq] [(.cst (.int (10)))]),(.cmp (.sub (.loc 0) (.loc 1)) [.NotEq] [(.cst (.int (13)))])]) [(.assign (.loc 1) (.bin .Add (.loc 1) (.cst (.int (1)))))]),
 (.ret (some (.slc (.loc 0) none (some (.loc 1)))))]
theorem ZkQ:Zc 180 (Zb 19 none) 1 Zif:=Zd (by decide) (by kernel_rfl)
noncomputable def Zj3:List MS:=[
 (.assign (.loc 0) (.call 9 [(.loc 0)])),
 (.ife (.cmp (.slc (.loc 0) none (some (.cst (.int (1))))) [.Eq] [(.cst (.bytes [61]))]) [(.ret (some (.slc (.loc 0) (some (.cst (.int (1)))) (some (.loc 1)))))] []),
 (.ife (.cmp (.slc (.loc 0) none (some (.cst (.int (1))))) [.Eq] [(.cst (.bytes [64]))]) [(.assign (.tup [(.loc 2),(.loc 3)]) (.tup [(.call 79 [(.bin .Sub (.loc 1) (.cst (.int (8)))),(.cst (.int (0)))]),(.slc (.loc 0) (some (.cst (.int (1)))) none)])),(.ret (some (.ite (.cmp (.call 75 [(.loc 3)]) [.Gt] [(.loc 2)]) (.bin .Add (.cst (.bytes [46,46,46])) (.slc (.loc 3) (some (.bin .Sub (.call 75 [(.loc 3)]) (.loc 2))) none)) (.loc 3))))] []),
 (.assign (.tup [(.loc 4),(.loc 2)]) (.tup [(.call 10 [(.loc 0)]),(.call 79 [(.bin .Sub (.loc 1) (.cst (.int (17)))),(.cst (.int (0)))])])),
 (.ife (.cmp (.call 75 [(.loc 4)]) [.Gt] [(.loc 2)]) [(.assign (.loc 4) (.slc (.loc 4) none (some (.loc 2))))] []),
 (.ife (.cmp (.call 75 [(.loc 4)]) [.Lt] [(.call 75 [(.loc 0)])]) [(.assign (.loc 4) (.bin .Add (.loc 4) (.cst (.bytes [46,46,46]))))] []),
 (.ret (some (.bin .Add (.bin .Add (.cst (.bytes [91,115,116,114,105,110,103,32,34])) (.loc 4)) (.cst (.bytes [34,93])))))]
theorem Zc2:Zc 187 (Zb 20 none) 2 Zj3:=Zd (by decide) (by kernel_rfl)
noncomputable def Zos:List MS:=[
 (.assign (.loc 1) (.lst [(.cst (.int (34)))])),
 (.for (.loc 2) (.loc 0) [(.ife (.cmp (.loc 2) [.In] [(.cst (.bytes [34,92,10]))]) [(.expr (.callm (.loc 1) 29 [(.lst [(.cst (.int (92))),(.loc 2)])]))] [(.ife (.cmp (.loc 2) [.Eq] [(.cst (.int (13)))]) [(.expr (.callm (.loc 1) 29 [(.cst (.bytes [92,114]))]))] [(.ife (.cmp (.loc 2) [.Eq] [(.cst (.int (0)))]) [(.expr (.callm (.loc 1) 29 [(.cst (.bytes [92,48,48,48]))]))] [(.expr (.callm (.loc 1) 28 [(.loc 2)]))])])])]),
 (.expr (.callm (.loc 1) 28 [(.cst (.int (34)))])),
 (.ret (some (.call 76 [(.loc 1)])))]
theorem ZbN:Zc 194 (Zb 21 none) 1 Zos:=Zd (by decide) (by kernel_rfl)
noncomputable def Zgq:List MS:=[
 (.ret (some (.cmp (.cst (.int (48))) [.LtE,.LtE] [(.loc 0),(.cst (.int (57)))])))]
theorem ZbG:Zc 201 (Zb 34 none) 1 Zgq:=Zd (by decide) (by kernel_rfl)
noncomputable def Zig:List MS:=[
 (.assign (.loc 1) (.callm (.loc 0) 31 [(.cst (.bytes [0]))])),
 (.ret (some (.ite (.cmp (.loc 1) [.Lt] [(.cst (.int (0)))]) (.loc 0) (.slc (.loc 0) none (some (.loc 1))))))]
theorem Za0:Zc 208 (Zb 36 none) 1 Zig:=Zd (by decide) (by kernel_rfl)
noncomputable def Zi1:List MS:=[
 (.assign (.loc 3) (.lst [])),
 (.assign (.loc 4) (.loc 0)),
 (.while (.bool .Or [(.cmp (.loc 4) [.Gt] [(.cst (.int (0)))]),(.cmp (.loc 3) [.Eq] [(.lst [])])]) [(.expr (.callm (.loc 3) 28 [(.sub (.loc 2) (.bin .Mod (.loc 4) (.loc 1)))])),(.assign (.loc 4) (.bin .FloorDiv (.loc 4) (.loc 1)))]),
 (.expr (.callm (.loc 3) 30 [])),
 (.ret (some (.call 76 [(.loc 3)])))]
theorem Zad:Zc 215 (Zb 37 none) 3 Zi1:=Zd (by decide) (by kernel_rfl)
noncomputable def Zdn:List MS:=[
 (.assign (.attr 0 10) (.loc 1)),
 (.assign (.attr 0 0) (.loc 2)),
 (.assign (.attr 0 11) (.loc 3)),
 (.assign (.attr 0 12) (.loc 4))]
theorem Zca:Zc 229 (Zb 38 (some 0)) 5 Zdn:=Zd (by decide) (by kernel_rfl)
noncomputable def ZfO:List MS:=[
 (.ret (some (.cmp (.loc 1) [.In] [(.attr (.loc 0) 10)])))]
theorem Zby:Zc 236 (Zb 38 (some 1)) 2 ZfO:=Zd (by decide) (by kernel_rfl)
noncomputable def Zeb:List MS:=[
 (.assign (.loc 2) (.bin .Mult (.call 76 [(.lst [(.glob 24)])]) (.call 79 [(.cst (.int (0))),(.bin .Sub (.attr (.loc 0) 0) (.call 75 [(.loc 1)]))]))),
 (.ret (some (.ite (.callm (.loc 0) 33 [(.glob 22)]) (.bin .Add (.loc 1) (.loc 2)) (.bin .Add (.loc 2) (.loc 1)))))]
theorem Zae:Zc 243 (Zb 38 (some 2)) 2 Zeb:=Zd (by decide) (by kernel_rfl)
noncomputable def Zec:List MS:=[
 (.ife (.bool .And [(.callm (.loc 0) 33 [(.glob 25)]),(.un .Not (.callm (.loc 0) 33 [(.glob 22)])),(.cmp (.attr (.loc 0) 11) [.Is] [(.cst .none)])]) [(.assign (.loc 2) (.bin .Add (.bin .Mult (.call 76 [(.lst [(.glob 25)])]) (.call 79 [(.cst (.int (0))),(.bin .Sub (.bin .Sub (.attr (.loc 0) 0) (.call 75 [(.loc 1)])) (.call 75 [(.loc 2)]))])) (.loc 2)))] []),
 (.ret (some (.callm (.loc 0) 34 [(.bin .Add (.loc 1) (.loc 2))])))]
theorem Zaf:Zc 250 (Zb 38 (some 3)) 3 Zec:=Zd (by decide) (by kernel_rfl)
noncomputable def ZcO:List MS:=[
 (.ife (.cmp (.attr (.loc 0) 11) [.Is] [(.cst .none)]) [(.ret (some (.loc 2)))] []),
 (.ife (.bool .And [(.cmp (.attr (.loc 0) 11) [.Eq] [(.cst (.int (0)))]),(.cmp (.loc 1) [.Eq] [(.cst (.int (0)))])]) [(.ret (some (.cst (.bytes []))))] []),
 (.ret (some (.bin .Add (.bin .Mult (.call 76 [(.lst [(.glob 25)])]) (.call 79 [(.cst (.int (0))),(.bin .Sub (.attr (.loc 0) 11) (.call 75 [(.loc 2)]))])) (.loc 2))))]
theorem ZF:Zc 257 (Zb 38 (some 4)) 3 ZcO:=Zd (by decide) (by kernel_rfl)
noncomputable def Zed:List MS:=[
 (.assign (.loc 2) (.cst (.bytes []))),
 (.ife (.cmp (.loc 1) [.Lt] [(.cst (.int (0)))]) [(.assign (.loc 2) (.cst (.bytes [45])))] [(.ife (.callm (.loc 0) 33 [(.glob 23)]) [(.assign (.loc 2) (.cst (.bytes [43])))] [(.ife (.callm (.loc 0) 33 [(.glob 24)]) [(.assign (.loc 2) (.cst (.bytes [32])))] [])])]),
 (.ret (some (.callm (.loc 0) 35 [(.loc 2),(.callm (.loc 0) 36 [(.loc 1),(.call 20 [(.call 74 [(.loc 1)]),(.cst (.int (10))),(.glob 27)])])])))]
theorem Zag:Zc 264 (Zb 38 (some 5)) 2 Zed:=Zd (by decide) (by kernel_rfl)
noncomputable def Zdo:List MS:=[
 (.ife (.cmp (.attr (.loc 0) 12) [.Eq] [(.call 82 [(.cst (.str (Str.ofString "u")))])]) [(.ret (some (.callm (.loc 0) 35 [(.cst (.bytes [])),(.callm (.loc 0) 36 [(.loc 1),(.call 20 [(.loc 1),(.cst (.int (10))),(.glob 27)])])])))] []),
 (.ife (.cmp (.attr (.loc 0) 12) [.Eq] [(.call 82 [(.cst (.str (Str.ofString "o")))])]) [(.assign (.loc 2) (.callm (.loc 0) 36 [(.loc 1),(.call 20 [(.loc 1),(.cst (.int (8))),(.glob 27)])])),(.ife (.bool .And [(.callm (.loc 0) 33 [(.glob 26)]),(.cmp (.slc (.loc 2) none (some (.cst (.int (1))))) [.NotEq] [(.cst (.bytes [48]))])]) [(.assign (.loc 2) (.bin .Add (.cst (.bytes [48])) (.loc 2)))] []),(.ret (some (.callm (.loc 0) 35 [(.cst (.bytes [])),(.loc 2)])))] []),
 (.assign (.loc 3) (.ite (.cmp (.attr (.loc 0) 12) [.Eq] [(.call 82 [(.cst (.str (Str.ofString "x")))])]) (.glob 27) (.glob 28))),
 (.assign (.loc 2) (.callm (.loc 0) 36 [(.loc 1),(.call 20 [(.loc 1),(.cst (.int (16))),(.loc 3)])])),
 (.assign (.loc 4) (.ite (.bool .And [(.callm (.loc 0) 33 [(.glob 26)]),(.cmp (.loc 1) [.NotEq] [(.cst (.int (0)))])]) (.call 76 [(.lst [(.glob 25),(.attr (.loc 0) 12)])]) (.cst (.bytes [])))),
 (.ret (some (.callm (.loc 0) 35 [(.loc 4),(.loc 2)])))]
theorem Zu:Zc 271 (Zb 38 (some 6)) 2 Zdo:=Zd (by decide) (by kernel_rfl)
noncomputable def ZeI:List MS:=[
 (.ret (some (.call 19 [(.callm (.loc 0) 34 [(.call 76 [(.lst [(.bin .Mod (.loc 1) (.cst (.int (256))))])])])])))]
theorem Za1:Zc 278 (Zb 38 (some 7)) 2 ZeI:=Zd (by decide) (by kernel_rfl)
noncomputable def ZeJ:List MS:=[
 (.ife (.bool .And [(.cmp (.attr (.loc 0) 11) [.Is] [(.cst .none)]),(.cmp (.call 75 [(.loc 1)]) [.GtE] [(.glob 29)])]) [(.ret (some (.loc 1)))] []),
 (.assign (.loc 2) (.call 19 [(.loc 1)])),
 (.ret (some (.callm (.loc 0) 34 [(.ite (.cmp (.attr (.loc 0) 11) [.Is] [(.cst .none)]) (.loc 2) (.slc (.loc 2) none (some (.attr (.loc 0) 11))))])))]
theorem Za2:Zc 285 (Zb 38 (some 8)) 2 ZeJ:=Zd (by decide) (by kernel_rfl)
noncomputable def Zi2:List MS:=[
 (.assign (.loc 2) (.cst (.int (0)))),
 (.for (.loc 3) (.call 83 [(.cst (.int (2)))]) [(.ife (.bool .And [(.cmp (.loc 1) [.Lt] [(.call 75 [(.loc 0)])]),(.call 18 [(.sub (.loc 0) (.loc 1))])]) [(.assign (.loc 2) (.bin .Sub (.bin .Add (.bin .Mult (.cst (.int (10))) (.loc 2)) (.sub (.loc 0) (.loc 1))) (.glob 25))),(.assign (.loc 1) (.bin .Add (.loc 1) (.cst (.int (1)))))] [])]),
 (.ret (some (.tup [(.loc 2),(.loc 1)])))]
theorem Zbi:Zc 299 (Zb 39 none) 2 Zi2:=Zd (by decide) (by kernel_rfl)
noncomputable def ZcC:List MS:=[
 (.assign (.loc 2) (.loc 1)),
 (.while (.bool .And [(.cmp (.loc 1) [.Lt] [(.call 75 [(.loc 0)])]),(.cmp (.sub (.loc 0) (.loc 1)) [.In] [(.glob 32)])]) [(.assign (.loc 1) (.bin .Add (.loc 1) (.cst (.int (1)))))]),
 (.assign (.loc 3) (.slc (.loc 0) (some (.loc 2)) (some (.loc 1)))),
 (.ife (.cmp (.call 75 [(.loc 3)]) [.Gt] [(.call 75 [(.glob 32)])]) [(.ret (some (.tup [(.cst .none),(.loc 1),(.cst (.bytes [105,110,118,97,108,105,100,32,102,111,114,109,97,116,32,40,114,101,112,101,97,116,101,100,32,102,108,97,103,115,41]))])))] []),
 (.assign (.tup [(.loc 4),(.loc 1)]) (.call 30 [(.loc 0),(.loc 1)])),
 (.assign (.loc 5) (.cst .none)),
 (.ife (.bool .And [(.cmp (.loc 1) [.Lt] [(.call 75 [(.loc 0)])]),(.cmp (.sub (.loc 0) (.loc 1)) [.Eq] [(.glob 33)])]) [(.assign (.tup [(.loc 5),(.loc 1)]) (.call 30 [(.loc 0),(.bin .Add (.loc 1) (.cst (.int (1))))]))] []),
 (.ife (.bool .And [(.cmp (.loc 1) [.Lt] [(.call 75 [(.loc 0)])]),(.call 18 [(.sub (.loc 0) (.loc 1))])]) [(.ret (some (.tup [(.cst .none),(.loc 1),(.cst (.bytes [105,110,118,97,108,105,100,32,102,111,114,109,97,116,32,40,119,105,100,116,104,32,111,114,32,112,114,101,99,105,115,105,111,110,32,116,111,111,32,108,111,110,103,41]))])))] []),
 (.assign (.loc 6) (.ite (.cmp (.loc 1) [.Lt] [(.call 75 [(.loc 0)])]) (.sub (.loc 0) (.loc 1)) (.cst (.int (0))))),
 (.ret (some (.tup [(.call 21 [(.loc 3),(.loc 4),(.loc 5),(.loc 6)]),(.bin .Add (.loc 1) (.cst (.int (1)))),(.cst .none)])))]
theorem Zak:Zc 306 (Zb 40 none) 2 ZcC:=Zd (by decide) (by kernel_rfl)
noncomputable def Zcb:List MS:=[
 (.assign (.attr 0 13) (.loc 1)),
 (.assign (.attr 0 14) (.loc 2))]
theorem Zbj:Zc 320 (Zb 41 (some 0)) 3 Zcb:=Zd (by decide) (by kernel_rfl)
noncomputable def ZcP:List MS:=[
 (.ret (some (.ite (.cmp (.bin .Sub (.loc 1) (.cst (.int (2)))) [.Lt] [(.call 75 [(.attr (.loc 0) 13)])]) (.sub (.attr (.loc 0) 13) (.bin .Sub (.loc 1) (.cst (.int (2))))) (.cst .none))))]
theorem ZR:Zc 327 (Zb 41 (some 1)) 2 ZcP:=Zd (by decide) (by kernel_rfl)
noncomputable def Zcv:List MS:=[
 (.assign (.loc 2) (.call 6 [(.callm (.loc 0) 16 [(.loc 1)]),(.attr (.loc 0) 14)])),
 (.ife (.cmp (.loc 2) [.Is] [(.cst .none)]) [(.raise (.call 17 [(.cst (.bytes [110,117,109,98,101,114,32,101,120,112,101,99,116,101,100]))]))] []),
 (.ret (some (.loc 2)))]
theorem Zx:Zc 334 (Zb 41 (some 2)) 2 Zcv:=Zd (by decide) (by kernel_rfl)
noncomputable def Zc8:List MS:=[
 (.assign (.loc 2) (.call 8 [(.callm (.loc 0) 16 [(.loc 1)])])),
 (.ife (.cmp (.loc 2) [.Is] [(.cst .none)]) [(.raise (.call 17 [(.cst (.bytes [115,116,114,105,110,103,32,101,120,112,101,99,116,101,100]))]))] []),
 (.ret (some (.loc 2)))]
theorem Zat:Zc 341 (Zb 41 (some 3)) 2 Zc8:=Zd (by decide) (by kernel_rfl)
noncomputable def ZcD:List MS:=[
 (.raise (.call 17 [(.loc 1)]))]
theorem ZQ:Zc 348 (Zb 41 (some 4)) 2 ZcD:=Zd (by decide) (by kernel_rfl)
noncomputable def Zp8:List MS:=[
 (.ife (.cmp (.attr (.loc 0) 12) [.In] [(.cst (.bytes [100,105]))]) [(.ret (some (.callm (.loc 0) 37 [(.callm (.loc 1) 41 [(.loc 2)])])))] []),
 (.ife (.cmp (.attr (.loc 0) 12) [.In] [(.cst (.bytes [117,111,120,88]))]) [(.ret (some (.callm (.loc 0) 38 [(.bin .Mod (.callm (.loc 1) 41 [(.loc 2)]) (.bin .LShift (.cst (.int (1))) (.attr (.attr (.loc 1) 14) 0)))])))] []),
 (.ife (.cmp (.attr (.loc 0) 12) [.Eq] [(.call 82 [(.cst (.str (Str.ofString "c")))])]) [(.ret (some (.callm (.loc 0) 39 [(.callm (.loc 1) 41 [(.loc 2)])])))] []),
 (.ife (.cmp (.attr (.loc 0) 12) [.Eq] [(.call 82 [(.cst (.str (Str.ofString "s")))])]) [(.ret (some (.callm (.loc 0) 40 [(.callm (.loc 1) 9 [(.loc 2)])])))] []),
 (.ife (.cmp (.attr (.loc 0) 12) [.Eq] [(.call 82 [(.cst (.str (Str.ofString "q")))])]) [(.ret (some (.call 12 [(.callm (.loc 1) 9 [(.loc 2)])])))] []),
 (.assign (.loc 3) (.ite (.cmp (.attr (.loc 0) 12) [.NotEq] [(.cst (.int (0)))]) (.call 76 [(.lst [(.attr (.loc 0) 12)])]) (.cst (.bytes [])))),
 (.ret (some (.callm (.loc 1) 42 [(.bin .Add (.bin .Add (.cst (.bytes [105,110,118,97,108,105,100,32,111,112,116,105,111,110,32,39,37])) (.loc 3)) (.cst (.bytes [39,32,116,111,32,39,102,111,114,109,97,116,39])))])))]
theorem Zbz:Zc 362 (Zb 42 none) 3 Zp8:=Zd (by decide) (by kernel_rfl)
noncomputable def Zih:List MS:=[
 (.assign (.tup [(.loc 2),(.loc 3),(.loc 4)]) (.tup [(.call 77 []),(.cst (.int (0))),(.cst (.int (1)))])),
 (.while (.cmp (.loc 3) [.Lt] [(.call 75 [(.loc 0)])]) [(.assign (.loc 5) (.sub (.loc 0) (.loc 3))),(.assign (.loc 3) (.bin .Add (.loc 3) (.cst (.int (1))))),(.ife (.cmp (.loc 5) [.NotEq] [(.glob 37)]) [(.expr (.callm (.loc 2) 28 [(.loc 5)]))] [(.ife (.bool .And [(.cmp (.loc 3) [.Lt] [(.call 75 [(.loc 0)])]),(.cmp (.sub (.loc 0) (.loc 3)) [.Eq] [(.glob 37)])]) [(.expr (.callm (.loc 2) 28 [(.glob 37)])),(.assign (.loc 3) (.bin .Add (.loc 3) (.cst (.int (1)))))] [(.assign (.loc 4) (.bin .Add (.loc 4) (.cst (.int (1))))),(.assign (.tup [(.loc 6),(.loc 3),(.loc 7)]) (.call 31 [(.loc 0),(.loc 3)])),(.ife (.cmp (.loc 7) [.IsNot] [(.cst .none)]) [(.expr (.callm (.loc 1) 42 [(.loc 7)]))] []),(.expr (.callm (.loc 2) 29 [(.call 35 [(.loc 6),(.loc 1),(.loc 4)])]))])])]),
 (.ret (some (.call 76 [(.loc 2)])))]
theorem Zan:Zc 369 (Zb 43 none) 2 Zih:=Zd (by decide) (by kernel_rfl)
noncomputable def ZfP:List MS:=[
 (.ret (some (.call 36 [(.loc 0),(.call 34 [(.loc 1),(.loc 2)])])))]
theorem Z5:Zc 376 (Zb 44 none) 3 ZfP:=Zd (by decide) (by kernel_rfl)
noncomputable def Zfb:List MS:=[
 (.ret (some (.cmp (.cst (.int (48))) [.LtE,.LtE] [(.loc 0),(.cst (.int (57)))])))]
theorem Zal:Zc 385 (Zb 77 none) 1 Zfb:=Zd (by decide) (by kernel_rfl)
noncomputable def ZcE:List MS:=[
 (.ret (some (.bool .Or [(.cmp (.loc 0) [.Eq] [(.cst (.int (32)))]),(.cmp (.cst (.int (9))) [.LtE,.LtE] [(.loc 0),(.cst (.int (13)))])])))]
theorem Za9:Zc 406 (Zb 81 none) 1 ZcE:=Zd (by decide) (by kernel_rfl)
noncomputable def ZeK:List MS:=[
 (.ret (some (.cmp (.loc 0) [.In] [(.tup [(.glob 55),(.glob 56)])])))]
theorem Za3:Zc 420 (Zb 84 none) 1 ZeK:=Zd (by decide) (by kernel_rfl)
noncomputable def Zgr:List MS:=[
 (.assign (.loc 1) (.callm (.cst (.bytes [97,98,102,110,114,116,118])) 31 [(.call 76 [(.lst [(.loc 0)])])])),
 (.ret (some (.ite (.cmp (.loc 1) [.Lt] [(.cst (.int (0)))]) (.cst .none) (.sub (.cst (.bytes [7,8,12,10,13,9,11])) (.loc 1)))))]
theorem ZaC:Zc 427 (Zb 85 none) 1 Zgr:=Zd (by decide) (by kernel_rfl)
noncomputable def ZcF:List MS:=[
 (.assign (.loc 0) (.dict [] [])),
 (.for (.tup [(.loc 1),(.loc 2)]) (.call 84 [(.glob 39)]) [(.assign (.sub (.loc 0) (.loc 2)) (.bin .Add (.glob 40) (.loc 1)))]),
 (.ret (some (.loc 0)))]
theorem Zba:Zc 434 (Zb 86 none) 0 ZcF:=Zd (by decide) (by kernel_rfl)
noncomputable def Zfc:List MS:=[
 (.assign (.attr 0 15) (.loc 1)),
 (.assign (.attr 0 16) (.loc 2))]
theorem Zc9:Zc 455 (Zb 88 (some 0)) 3 Zfc:=Zd (by decide) (by kernel_rfl)
noncomputable def Zfd:List MS:=[
 (.assign (.attr 0 9) (.loc 1)),
 (.assign (.attr 0 18) (.loc 2)),
 (.assign (.attr 0 19) (.call 11 [(.loc 2),(.glob 58)])),
 (.assign (.attr 0 14) (.loc 3)),
 (.assign (.attr 0 20) (.call 46 [])),
 (.assign (.attr 0 21) (.cst (.int (0)))),
 (.assign (.attr 0 22) (.ite (.cmp (.call 75 [(.loc 1)]) [.Gt] [(.cst (.int (0)))]) (.sub (.loc 1) (.cst (.int (0)))) (.glob 49))),
 (.assign (.attr 0 23) (.cst (.int (1)))),
 (.assign (.attr 0 24) (.cst (.int (1)))),
 (.assign (.attr 0 25) (.call 77 [])),
 (.assign (.attr 0 26) (.call 47 [(.glob 50),(.cst .none)])),
 (.assign (.attr 0 27) (.cst .none))]
theorem Zda:Zc 476 (Zb 89 (some 0)) 4 Zfd:=Zd (by decide) (by kernel_rfl)
noncomputable def Zii:List MS:=[
 (.assign (.attr 0 24) (.attr (.loc 0) 23)),
 (.ife (.cmp (.attr (.loc 0) 27) [.IsNot] [(.cst .none)]) [(.assign (.attr 0 26) (.attr (.loc 0) 27)),(.assign (.attr 0 27) (.cst .none))] [(.assign (.attr 0 26) (.callm (.loc 0) 49 []))]),
 (.ret (some (.attr (.loc 0) 26)))]
theorem Za4:Zc 483 (Zb 89 (some 1)) 1 Zii:=Zd (by decide) (by kernel_rfl)
noncomputable def Zij:List MS:=[
 (.auga 0 21 .Add (.cst (.int (1)))),
 (.assign (.attr 0 22) (.ite (.cmp (.attr (.loc 0) 21) [.Lt] [(.call 75 [(.attr (.loc 0) 9)])]) (.sub (.attr (.loc 0) 9) (.attr (.loc 0) 21)) (.glob 49)))]
theorem Zci:Zc 518 (Zb 89 (some 6)) 1 Zij:=Zd (by decide) (by kernel_rfl)
noncomputable def Zik:List MS:=[
 (.ife (.cmp (.call 75 [(.attr (.loc 0) 25)]) [.GtE] [(.attr (.attr (.loc 0) 14) 9)]) [(.expr (.callm (.loc 0) 44 [(.cst (.bytes [108,101,120,105,99,97,108,32,101,108,101,109,101,110,116,32,116,111,111,32,108,111,110,103])),(.cst .none)]))] []),
 (.expr (.callm (.attr (.loc 0) 25) 28 [(.loc 1)]))]
theorem Zcj:Zc 525 (Zb 89 (some 7)) 2 Zik:=Zd (by decide) (by kernel_rfl)
noncomputable def Zdb:List MS:=[
 (.expr (.callm (.loc 0) 46 [(.attr (.loc 0) 22)])),
 (.expr (.callm (.loc 0) 45 []))]
theorem Zau:Zc 532 (Zb 89 (some 8)) 1 Zdb:=Zd (by decide) (by kernel_rfl)
noncomputable def Zhb:List MS:=[
 (.assign (.attr 0 25) (.call 77 []))]
theorem Zb1:Zc 546 (Zb 89 (some 10)) 1 Zhb:=Zd (by decide) (by kernel_rfl)
noncomputable def Zfe:List MS:=[
 (.assign (.loc 1) (.attr (.loc 0) 22)),
 (.expr (.callm (.loc 0) 45 [])),
 (.ife (.bool .And [(.call 43 [(.attr (.loc 0) 22)]),(.cmp (.attr (.loc 0) 22) [.NotEq] [(.loc 1)])]) [(.expr (.callm (.loc 0) 45 []))] []),
 (.auga 0 23 .Add (.cst (.int (1)))),
 (.ife (.cmp (.attr (.loc 0) 23) [.GtE] [(.glob 42)]) [.opq] [])]
theorem Zbb:Zc 553 (Zb 89 (some 11)) 1 Zfe:=Zd (by decide) (by kernel_rfl)
noncomputable def Zil:List MS:=[
 (.expr (.callm (.loc 0) 48 [])),
 (.while (.callm (.loc 0) 50 []) [.pass]),
 (.assign (.loc 1) (.attr (.loc 0) 22)),
 (.ife (.cmp (.loc 1) [.Eq] [(.glob 49)]) [(.ret (some (.call 47 [(.glob 50),(.cst .none)])))] []),
 (.ife (.cmp (.loc 1) [.In] [(.tup [(.glob 52),(.glob 53)])]) [(.ret (some (.callm (.loc 0) 51 [(.loc 1)])))] []),
 .opq,
 .opq,
 (.ife (.call 41 [(.loc 1)]) [.opq] []),
 .opq,
 (.ife (.cmp (.loc 1) [.Eq] [(.glob 54)]) [(.expr (.callm (.loc 0) 45 [])),(.ret (some (.call 47 [(.glob 54),(.cst .none)])))] []),
 .opq,
 (.expr (.callm (.loc 0) 45 [])),
 (.ret (some (.call 47 [(.loc 1),(.cst .none)])))]
theorem Za5:Zc 560 (Zb 89 (some 12)) 1 Zil:=Zd (by decide) (by kernel_rfl)
noncomputable def Zee:List MS:=[
 (.ife (.call 43 [(.attr (.loc 0) 22)]) [(.expr (.callm (.loc 0) 56 [])),(.ret (some (.cst (.bool true))))] []),
 (.ife (.call 44 [(.attr (.loc 0) 22)]) [(.expr (.callm (.loc 0) 45 [])),(.ret (some (.cst (.bool true))))] []),
 (.ife (.bool .And [(.cmp (.attr (.loc 0) 22) [.Eq] [(.glob 54)]),(.cmp (.callm (.loc 0) 58 []) [.Eq] [(.glob 54)])]) [(.expr (.callm (.loc 0) 57 [])),(.ret (some (.cst (.bool true))))] []),
 (.ret (some (.cst (.bool false))))]
theorem ZaQ:Zc 567 (Zb 89 (some 13)) 1 Zee:=Zd (by decide) (by kernel_rfl)
noncomputable def ZdT:List MS:=[
 (.ret (some (.ite (.cmp (.bin .Add (.attr (.loc 0) 21) (.cst (.int (1)))) [.Lt] [(.call 75 [(.attr (.loc 0) 9)])]) (.sub (.attr (.loc 0) 9) (.bin .Add (.attr (.loc 0) 21) (.cst (.int (1))))) (.glob 49))))]
theorem Zhc:Zc 574 (Zb 89 (some 14)) 1 ZdT:=Zd (by decide) (by kernel_rfl)
noncomputable def ZdU:List MS:=[
 (.expr (.callm (.loc 0) 47 [])),
 (.while (.cmp (.attr (.loc 0) 22) [.NotEq] [(.loc 1)]) [(.ife (.cmp (.attr (.loc 0) 22) [.Eq] [(.glob 49)]) [(.expr (.callm (.loc 0) 44 [(.cst (.bytes [117,110,102,105,110,105,115,104,101,100,32,115,116,114,105,110,103])),(.glob 50)]))] [(.ife (.call 43 [(.attr (.loc 0) 22)]) [(.expr (.callm (.loc 0) 44 [(.cst (.bytes [117,110,102,105,110,105,115,104,101,100,32,115,116,114,105,110,103])),(.glob 51)]))] [(.ife (.cmp (.attr (.loc 0) 22) [.Eq] [(.glob 57)]) [(.expr (.callm (.loc 0) 45 [])),(.expr (.callm (.loc 0) 52 []))] [(.expr (.callm (.loc 0) 47 []))])])])]),
 (.expr (.callm (.loc 0) 47 [])),
 (.ret (some (.call 47 [(.glob 51),(.call 76 [(.slc (.attr (.loc 0) 25) (some (.cst (.int (1)))) (some (.bin .Sub (.call 75 [(.attr (.loc 0) 25)]) (.cst (.int (1))))))])])))]
theorem ZaD:Zc 644 (Zb 89 (some 24)) 2 ZdU:=Zd (by decide) (by kernel_rfl)
noncomputable def ZdV:List MS:=[
 (.ife (.cmp (.attr (.loc 0) 22) [.Eq] [(.glob 49)]) [(.ret none)] []),
 (.ife (.call 43 [(.attr (.loc 0) 22)]) [(.expr (.callm (.loc 0) 46 [(.glob 55)])),(.expr (.callm (.loc 0) 56 [])),(.ret none)] []),
 (.ife (.call 41 [(.attr (.loc 0) 22)]) [(.expr (.callm (.loc 0) 53 [])),(.ret none)] []),
 (.assign (.loc 1) (.call 45 [(.attr (.loc 0) 22)])),
 (.expr (.callm (.loc 0) 46 [(.ite (.cmp (.loc 1) [.Is] [(.cst .none)]) (.attr (.loc 0) 22) (.loc 1))])),
 (.expr (.callm (.loc 0) 45 []))]
theorem ZM:Zc 651 (Zb 89 (some 25)) 1 ZdV:=Zd (by decide) (by kernel_rfl)
noncomputable def ZdW:List MS:=[
 (.assign (.tup [(.loc 1),(.loc 2)]) (.tup [(.cst (.int (0))),(.cst (.int (0)))])),
 (.while (.bool .And [(.cmp (.loc 2) [.Lt] [(.cst (.int (3)))]),(.call 41 [(.attr (.loc 0) 22)])]) [(.assign (.loc 1) (.bin .Sub (.bin .Add (.bin .Mult (.cst (.int (10))) (.loc 1)) (.attr (.loc 0) 22)) (.cst (.int (48))))),(.aug 2 .Add (.cst (.int (1)))),(.expr (.callm (.loc 0) 45 []))]),
 (.ife (.cmp (.loc 1) [.Gt] [(.cst (.int (255)))]) [(.expr (.callm (.loc 0) 44 [(.cst (.bytes [101,115,99,97,112,101,32,115,101,113,117,101,110,99,101,32,116,111,111,32,108,97,114,103,101])),(.glob 51)]))] []),
 (.expr (.callm (.loc 0) 46 [(.loc 1)]))]
theorem ZaE:Zc 658 (Zb 89 (some 26)) 1 ZdW:=Zd (by decide) (by kernel_rfl)
noncomputable def Zim:List MS:=[
 (.assign (.tup [(.loc 3),(.loc 4)]) (.tup [(.call 48 [(.loc 0),(.loc 1),(.loc 2)]),(.lst [])])),
 (.assign (.loc 5) (.callm (.loc 3) 43 [])),
 (.while (.cmp (.attr (.loc 5) 15) [.NotEq] [(.glob 50)]) [(.expr (.callm (.loc 4) 28 [(.tup [(.attr (.loc 5) 15),(.attr (.loc 5) 16)])])),(.assign (.loc 5) (.callm (.loc 3) 43 []))]),
 (.ret (some (.loc 4)))]
theorem Zck:Zc 672 (Zb 90 none) 3 Zim:=Zd (by decide) (by kernel_rfl)
noncomputable def Zin:List MS:=[
 (.ret (some (.lst [(.cst (.int (97))),(.cst (.int (0))),(.cst (.int (10))),(.cst (.int (13))),(.cst (.int (34))),(.cst (.int (92))),(.cst (.int (37))),(.cst (.int (255))),(.cst (.int (48))),(.cst (.int (39))),(.cst (.int (9)))])))]
theorem Zcl:Zc 679 (Zb 94 none) 0 Zin:=Zd (by decide) (by kernel_rfl)
noncomputable def ZeL:List MS:=[
 (.ret (some (.lst [(.tup [(.cst (.bytes [])),(.cst .none)]),(.tup [(.cst (.bytes [46])),(.cst (.int (0)))]),(.tup [(.cst (.bytes [46,49])),(.cst (.int (1)))]),(.tup [(.cst (.bytes [46,51])),(.cst (.int (3)))]),(.tup [(.cst (.bytes [46,49,50])),(.cst (.int (12)))])])))]
theorem Za6:Zc 686 (Zb 95 none) 0 ZeL:=Zd (by decide) (by kernel_rfl)
noncomputable def Zhd:List MS:=[
 (.assign (.loc 1) (.lst [])),
 (.for (.loc 2) (.call 83 [(.bin .Mod (.loc 0) (.cst (.int (6))))]) [(.assign (.loc 0) (.bin .FloorDiv (.loc 0) (.cst (.int (11))))),(.expr (.callm (.loc 1) 28 [(.sub (.call 62 []) (.bin .Mod (.loc 0) (.cst (.int (11)))))]))]),
 (.ret (some (.call 76 [(.loc 1)])))]
theorem ZU:Zc 704 (Zb 97 none) 1 Zhd:=Zd (by decide) (by kernel_rfl)
noncomputable def Zi3:List MS:=[
 (.ret (some (.slc (.bin .Add (.call 65 [(.bin .FloorDiv (.loc 0) (.cst (.int (4))))]) (.bin .Mult (.cst (.bytes [122])) (.cst (.int (101))))) none (some (.bin .Add (.cst (.int (98))) (.bin .Mod (.loc 0) (.cst (.int (4)))))))))]
theorem ZcG:Zc 711 (Zb 98 none) 1 Zi3:=Zd (by decide) (by kernel_rfl)
noncomputable def Zhe:List MS:=[
 (.assign (.loc 2) (.cst (.int (1)))),
 (.while (.cmp (.loc 0) [.GtE] [(.bin .Pow (.loc 1) (.loc 2))]) [(.assign (.loc 2) (.bin .Add (.loc 2) (.cst (.int (1)))))]),
 (.ret (some (.loc 2)))]
theorem Zb2:Zc 718 (Zb 99 none) 2 Zhe:=Zd (by decide) (by kernel_rfl)
noncomputable def Zhf:List MS:=[
 (.assign (.loc 3) (.bin .Mult (.lst [(.cst (.int (32)))]) (.bin .Sub (.loc 1) (.call 75 [(.loc 2)])))),
 (.ret (some (.ite (.cmp (.cst (.int (45))) [.In] [(.loc 0)]) (.bin .Add (.loc 2) (.loc 3)) (.bin .Add (.loc 3) (.loc 2)))))]
theorem ZV:Zc 725 (Zb 100 none) 3 Zhf:=Zd (by decide) (by kernel_rfl)
noncomputable def Zgs:List MS:=[
 (.assign (.loc 7) (.ite (.bool .And [(.cmp (.loc 2) [.Eq] [(.cst (.int (0)))]),(.cmp (.loc 3) [.Eq] [(.cst (.int (0)))])]) (.cst (.int (0))) (.call 67 [(.loc 3),(.loc 4)]))),
 (.ife (.bool .And [(.cmp (.loc 2) [.IsNot] [(.cst .none)]),(.cmp (.loc 2) [.Gt] [(.loc 7)])]) [(.assign (.loc 7) (.loc 2))] []),
 (.ife (.bool .And [(.cmp (.loc 4) [.Eq] [(.cst (.int (8)))]),(.cmp (.cst (.int (35))) [.In] [(.loc 0)]),(.cmp (.loc 3) [.GtE] [(.bin .FloorDiv (.bin .Pow (.cst (.int (8))) (.loc 7)) (.cst (.int (8))))]),(.bool .Or [(.cmp (.loc 3) [.Gt] [(.cst (.int (0)))]),(.cmp (.loc 7) [.Eq] [(.cst (.int (0)))])])]) [(.assign (.loc 7) (.bin .Add (.loc 7) (.cst (.int (1)))))] []),
 (.ife (.bool .And [(.cmp (.cst (.int (48))) [.In] [(.loc 0)]),(.cmp (.cst (.int (45))) [.NotIn] [(.loc 0)]),(.cmp (.loc 2) [.Is] [(.cst .none)]),(.cmp (.bin .Sub (.loc 1) (.call 75 [(.loc 5)])) [.Gt] [(.loc 7)])]) [(.assign (.loc 7) (.bin .Sub (.loc 1) (.call 75 [(.loc 5)])))] []),
 (.assign (.loc 8) (.call 81 [(.loc 5)])),
 (.for (.loc 9) (.call 83 [(.bin .Sub (.loc 7) (.cst (.int (1)))),(.bin .Sub (.cst (.int (0))) (.cst (.int (1)))),(.bin .Sub (.cst (.int (0))) (.cst (.int (1))))]) [(.assign (.loc 10) (.bin .Mod (.bin .FloorDiv (.loc 3) (.bin .Pow (.loc 4) (.loc 9))) (.loc 4))),(.expr (.callm (.loc 8) 28 [(.ite (.cmp (.loc 10) [.Lt] [(.cst (.int (10)))]) (.bin .Add (.cst (.int (48))) (.loc 10)) (.bin .Add (.ite (.loc 6) (.cst (.int (55))) (.cst (.int (87)))) (.loc 10)))]))]),
 (.ret (some (.call 68 [(.loc 0),(.loc 1),(.loc 8)])))]
theorem Zaa:Zc 732 (Zb 101 none) 7 Zgs:=Zd (by decide) (by kernel_rfl)
noncomputable def Zgt:List MS:=[
 (.ret (some (.call 76 [(.call 69 [(.lst []),(.cst (.int (0))),(.cst .none),(.call 74 [(.loc 0)]),(.cst (.int (10))),(.ite (.cmp (.loc 0) [.Lt] [(.cst (.int (0)))]) (.lst [(.cst (.int (45)))]) (.lst [])),(.cst (.bool false))])])))]
theorem Zab:Zc 739 (Zb 102 none) 1 Zgt:=Zd (by decide) (by kernel_rfl)
noncomputable def ZeM:List MS:=[
 (.assign (.loc 1) (.lst [])),
 (.for (.loc 2) (.loc 0) [(.ife (.cmp (.loc 2) [.Eq] [(.cst (.int (0)))]) [(.ret (some (.loc 1)))] []),(.expr (.callm (.loc 1) 28 [(.loc 2)]))]),
 (.ret (some (.loc 1)))]
theorem ZS:Zc 746 (Zb 103 none) 1 ZeM:=Zd (by decide) (by kernel_rfl)
noncomputable def Zio:List MS:=[
 (.ife (.cmp (.loc 3) [.In] [(.cst (.bytes [100,105]))]) [(.assign (.loc 6) (.ite (.cmp (.loc 4) [.Lt] [(.cst (.int (0)))]) (.lst [(.cst (.int (45)))]) (.ite (.cmp (.cst (.int (43))) [.In] [(.loc 0)]) (.lst [(.cst (.int (43)))]) (.ite (.cmp (.cst (.int (32))) [.In] [(.loc 0)]) (.lst [(.cst (.int (32)))]) (.lst []))))),(.ret (some (.call 69 [(.loc 0),(.loc 1),(.loc 2),(.call 74 [(.loc 4)]),(.cst (.int (10))),(.loc 6),(.cst (.bool false))])))] []),
 (.ife (.cmp (.loc 3) [.In] [(.cst (.bytes [117,111,120,88]))]) [(.assign (.loc 7) (.callm (.dict [(.cst (.int (117))),(.cst (.int (111)))] [(.cst (.int (10))),(.cst (.int (8)))]) 32 [(.loc 3),(.cst (.int (16)))])),(.assign (.loc 8) (.ite (.cmp (.loc 4) [.GtE] [(.cst (.int (0)))]) (.loc 4) (.bin .Add (.loc 4) (.bin .Pow (.cst (.int (2))) (.loc 5))))),(.assign (.loc 6) (.ite (.bool .And [(.cmp (.loc 7) [.Eq] [(.cst (.int (16)))]),(.cmp (.cst (.int (35))) [.In] [(.loc 0)]),(.cmp (.loc 8) [.Gt] [(.cst (.int (0)))])]) (.lst [(.cst (.int (48))),(.loc 3)]) (.lst []))),(.ret (some (.call 69 [(.loc 0),(.loc 1),(.loc 2),(.loc 8),(.loc 7),(.loc 6),(.cmp (.loc 3) [.Eq] [(.cst (.int (88)))])])))] []),
 (.ife (.cmp (.loc 3) [.Eq] [(.cst (.int (99)))]) [(.ret (some (.call 71 [(.call 68 [(.loc 0),(.loc 1),(.lst [(.bin .Mod (.loc 4) (.cst (.int (256))))])])])))] []),
 (.ife (.call 78 [(.loc 4),(.glob 85)]) [(.assign (.loc 4) (.call 70 [(.loc 4)]))] []),
 (.ife (.cmp (.loc 3) [.Eq] [(.cst (.int (113)))]) [(.ret (some (.call 81 [(.call 12 [(.loc 4)])])))] []),
 (.ife (.bool .And [(.cmp (.loc 2) [.Is] [(.cst .none)]),(.cmp (.call 75 [(.loc 4)]) [.Gt] [(.cst (.int (99)))])]) [(.ret (some (.call 81 [(.loc 4)])))] []),
 (.assign (.loc 9) (.call 71 [(.loc 4)])),
 (.ret (some (.call 68 [(.loc 0),(.loc 1),(.ite (.cmp (.loc 2) [.Is] [(.cst .none)]) (.loc 9) (.slc (.loc 9) none (some (.loc 2))))])))]
theorem Zy:Zc 753 (Zb 104 none) 6 Zio:=Zd (by decide) (by kernel_rfl)
noncomputable def Zip:List MS:=[
 (.tryx [(.ret (some (.call 38 [(.loc 0),(.loc 1),(.loc 2)])))] 17 [(.ret (some (.cst .none)))])]
theorem Zao:Zc 760 (Zb 105 none) 3 Zip:=Zd (by decide) (by kernel_rfl)
noncomputable def Zm3:List MS:=[
 (.assign (.loc 1) (.comp (.call 74 [(.loc 1)]) (.slc (.loc 0) none (some (.cst (.int (5))))) [])),
 (.assign (.loc 2) (.sub (.lst [(.cst (.int (8))),(.cst (.int (16))),(.cst (.int (32))),(.cst (.int (64)))]) (.bin .Mod (.call 80 [(.loc 1)]) (.cst (.int (4)))))),
 (.assign (.loc 3) (.callk 16 0 (.loc 2))),
 (.assign (.tup [(.loc 4),(.loc 5),(.loc 6)]) (.tup [(.cst (.bytes [])),(.lst []),(.lst [])])),
 (.for (.loc 7) (.loc 1) [(.assign (.tup [(.loc 8),(.loc 9)]) (.tup [(.bin .Mod (.loc 7) (.cst (.int (4)))),(.bin .FloorDiv (.loc 7) (.cst (.int (4))))])),(.ife (.cmp (.loc 8) [.Eq] [(.cst (.int (0)))]) [(.assign (.loc 10) (.comp (.loc 1) (.call 65 [(.loc 9)]) [(.cmp (.loc 1) [.NotEq] [(.cst (.int (37)))])])),(.assign (.tup [(.loc 4),(.loc 6)]) (.tup [(.bin .Add (.loc 4) (.call 76 [(.loc 10)])),(.bin .Add (.loc 6) (.loc 10))]))] [(.ife (.cmp (.loc 8) [.Eq] [(.cst (.int (1)))]) [(.assign (.tup [(.loc 4),(.loc 6)]) (.tup [(.bin .Add (.loc 4) (.cst (.bytes [37,37]))),(.bin .Add (.loc 6) (.lst [(.cst (.int (37)))]))]))] [(.assign (.tup [(.loc 11),(.loc 9)]) (.tup [(.sub (.glob 61) (.bin .Mod (.loc 9) (.cst (.int (9))))),(.bin .FloorDiv (.loc 9) (.cst (.int (9))))])),(.assign (.tup [(.loc 12),(.loc 9),(.loc 13)]) (.tup [(.bin .Mod (.loc 9) (.cst (.int (6)))),(.bin .FloorDiv (.loc 9) (.cst (.int (6)))),(.lst [])])),(.for (.loc 14) (.call 83 [(.loc 12)]) [(.assign (.tup [(.loc 13),(.loc 9)]) (.tup [(.bin .Add (.loc 13) (.lst [(.sub (.glob 60) (.bin .Mod (.loc 9) (.cst (.int (5)))))])),(.bin .FloorDiv (.loc 9) (.cst (.int (5))))]))]),(.assign (.tup [(.loc 15),(.loc 9)]) (.tup [(.bin .Mod (.loc 9) (.cst (.int (13)))),(.bin .FloorDiv (.loc 9) (.cst (.int (13))))])),(.assign (.tup [(.tup [(.loc 16),(.loc 17)]),(.loc 9)]) (.tup [(.sub (.call 63 []) (.bin .Mod (.loc 9) (.cst (.int (5))))),(.bin .FloorDiv (.loc 9) (.cst (.int (5))))])),(.assign (.tup [(.loc 18),(.loc 19)]) (.tup [(.bin .Sub (.bin .Mod (.loc 9) (.bin .Pow (.cst (.int (2))) (.loc 2))) (.bin .FloorDiv (.bin .Pow (.cst (.int (2))) (.loc 2)) (.cst (.int (2))))),(.cmp (.bin .Mod (.loc 9) (.cst (.int (3)))) [.Eq] [(.cst (.int (0)))])])),(.ife (.bool .And [(.cmp (.loc 11) [.In] [(.cst (.bytes [115,113]))]),(.cmp (.bin .Mod (.loc 9) (.cst (.int (5)))) [.Gt] [(.cst (.int (0)))])]) [(.assign (.tup [(.loc 18),(.loc 19)]) (.tup [(.ite (.bool .And [(.cmp (.loc 5) [.Eq] [(.lst [])]),(.cmp (.bin .Mod (.loc 9) (.cst (.int (5)))) [.Eq] [(.cst (.int (1)))])]) (.call 66 [(.loc 9)]) (.call 65 [(.loc 9)])),(.cst (.bool false))]))] []),(.expr (.callm (.loc 5) 28 [(.ite (.loc 19) (.call 70 [(.loc 18)]) (.loc 18))])),(.assign (.loc 4) (.bin .Add (.bin .Add (.bin .Add (.bin .Add (.bin .Add (.loc 4) (.cst (.bytes [37]))) (.call 76 [(.loc 13)])) (.ite (.cmp (.loc 15) [.Gt] [(.cst (.int (0)))]) (.call 70 [(.loc 15)]) (.cst (.bytes [])))) (.loc 16)) (.call 76 [(.lst [(.loc 11)])]))),(.assign (.loc 6) (.bin .Add (.loc 6) (.call 72 [(.loc 13),(.loc 15),(.loc 17),(.loc 11),(.loc 18),(.loc 2)])))])])]),
 (.assign (.loc 20) (.bin .Mod (.call 80 [(.loc 1)]) (.cst (.int (9))))),
 (.ife (.cmp (.loc 20) [.Lt] [(.cst (.int (5)))]) [(.assign (.tup [(.loc 21),(.loc 22)]) (.sub (.glob 64) (.loc 20))),(.ret (some (.cmp (.call 73 [(.bin .Add (.loc 4) (.loc 21)),(.bin .Add (.loc 5) (.loc 22)),(.loc 3)]) [.Is] [(.cst .none)])))] []),
 (.ife (.cmp (.call 73 [(.loc 4),(.bin .Add (.loc 5) (.bin .Mult (.lst [(.cst (.int (7)))]) (.bin .Sub (.loc 20) (.cst (.int (5)))))),(.loc 3)]) [.NotEq] [(.call 76 [(.loc 6)])]) [(.ret (some (.cst (.bool false))))] []),
 (.assign (.loc 23) (.call 65 [(.bin .FloorDiv (.call 80 [(.loc 1)]) (.cst (.int (9))))])),
 (.ret (some (.cmp (.call 59 [(.call 12 [(.loc 23)]),(.cst (.bytes [61,113])),(.call 16 [])]) [.Eq] [(.lst [(.tup [(.glob 51),(.loc 23)])])])))]
theorem Zj4:Zc 765 (Zb 106 none) 1 Zm3:=Zd (by decide) (by kernel_rfl)
section
variable {sc:Scope} {σ:List AO} {a b:Int} {ks:List Int} {d:Nat}
theorem Zot {σ:List AO} (k:Nat) (ao:AO):σ[k]? = some ao → σ[k]? = some ao ∨ ao.lt σ.length:=fun h => .inl h
theorem Zf {A:Addr} {n k:Nat} {ms:List MS} {vs:List V} {v:V} {g:List AO} (hc:Zc A sc n ms) (hn:vs.length = n) {ρ:List (Option V)} (hρ:ρ = vs.map some ++ List.replicate k none)
  (hb:TSs sc d ms ρ σ (.ret v) (σ ++ g)) (hv:v.lt σ.length):OpV (d + 1) (Fn (.ref A)) vs σ v σ :=
 ZcM hc hn hρ hb rfl (Nat.le_refl _) hv Zot
noncomputable def Za7 (a:Int):Bool:=decide (48 ≤ a) && decide (a ≤ 57)
theorem Zi4:TSs sc 0 Zgq [some (.int a)] σ (.ret (.bool (Za7 a))) (σ ++ []):=by
 rw [List.append_nil]
 exact TSs.ret (TE.chain TE.int (TE.loc rfl) Zhx TE.int Zhx)
theorem is_digit_ok:OpV 1 (Fn (.ref 201)) [.int a] σ (.bool (Za7 a)) σ:=Zf (k:=0) ZbG rfl rfl Zi4 (by simp [V.lt])
theorem is_digit_lexer_ok:OpV 1 (Fn (.ref 385)) [.int a] σ (.bool (Za7 a)) σ:=Zf (k:=0) Zal rfl rfl Zi4 (by simp [V.lt])
noncomputable def ZG (a:Int):Bool:=[32,9,10,11,12,13].contains a
theorem Zj5 (h0:0 ≤ a) (h1:a < 256):TSs sc 0 Zgn [some (.int a)] σ (.ret (.bool (ZG a))) (σ ++ []):=by
 rw [List.append_nil]
 exact TSs.ret (TE.cmp (TE.loc rfl) (TE.glob rfl) (Zay h0 h1))
theorem Zi5 (h0:0 ≤ a) (h1:a < 256):OpV 1 (Fn (.ref 110)) [.int a] σ (.bool (ZG a)) σ:=Zf (k:=0) Zc0 rfl rfl (Zj5 h0 h1) (by simp [V.lt])
noncomputable def Zq3 (a:Int):Bool:=(a == 32) || ((decide (9 ≤ a) && decide (a ≤ 13)) || false)
theorem TVs.or2 {e1 e2:ME} {ρ:List (Option V)} {r1 r2:Bool} (h1:TE sc d e1 ρ σ (.bool r1) σ) (h2:TE sc d e2 ρ σ (.bool r2) σ):TVs sc d .Or [e1,e2] ρ σ (.bool (r1 || r2)) σ:=by
 cases r1 with
 | false => exact TVs.go h1 rfl (TVs.one h2)
 | true => exact TVs.stop h1 rfl
theorem TVs.and2 {e1 e2:ME} {ρ:List (Option V)} {r1 r2:Bool} (h1:TE sc d e1 ρ σ (.bool r1) σ) (h2:r1 = true → TE sc d e2 ρ σ (.bool r2) σ):TVs sc d .And [e1,e2] ρ σ (.bool (r1 && r2)) σ:=by
 cases r1 with
 | true => exact TVs.go h1 rfl (TVs.one (h2 rfl))
 | false => exact TVs.stop h1 rfl
noncomputable def Zou (a:Int):Bool:=(a == 32) || (decide (9 ≤ a) && decide (a ≤ 13))
theorem Zi6:TSs sc 0 ZcE [some (.int a)] σ (.ret (.bool (Zou a))) (σ ++ []):=by
 rw [List.append_nil]
 exact TSs.ret (TE.bool (TVs.or2 (TE.cmp (TE.loc rfl) TE.int op_eq) (TE.chain TE.int (TE.loc rfl) Zhx TE.int Zhx)))
theorem ZeN:OpV 1 (Fn (.ref 406)) [.int a] σ (.bool (Zou a)) σ:=Zf (k:=0) Za9 rfl rfl Zi6 (by simp [V.lt])
noncomputable def ZfQ (a:Int):Bool:=[10,13].contains a
theorem Zov:TSs sc 0 ZeK [some (.int a)] σ (.ret (.bool (ZfQ a))) (σ ++ []):=by
 rw [List.append_nil]
 refine TSs.ret (TE.cmp (TE.loc rfl) (TE.tup (vs:=Za [10,13]) ?_) ZhC)
 exact TEs.cons (TE.glob rfl) (TEs.cons (TE.glob rfl) TEs.nil)
theorem is_newline_ok:OpV 1 (Fn (.ref 420)) [.int a] σ (.bool (ZfQ a)) σ:=Zf (k:=0) Za3 rfl rfl Zov (by simp [V.lt])
noncomputable def ZaK (a:Int):Int:=if 48 ≤ a ∧ a ≤ 57 then a - 48 else if 97 ≤ a ∧ a ≤ 122 then a - 87 else if 65 ≤ a ∧ a ≤ 90 then a - 55 else -1
theorem TB.rng {ρ:List (Option V)} {lo hi:Int} {i:Nat} (h:ρ[i]? = some (some (.int a))) {r:Bool} (hr:(decide (lo ≤ a) && decide (a ≤ hi)) = r):TB sc d (.cmp (.cst (.int lo)) [.LtE,.LtE] [(.loc i),(.cst (.int hi))]) ρ σ r σ :=
 TB.eqv (TB.chain TE.int (TE.loc h) Zhx TE.int Zhx) hr
theorem Zj6:TSs sc 0 Zgo [some (.int a)] σ (.ret (.int (ZaK a))) (σ ++ []):=by
 rw [List.append_nil]
 unfold ZaK
 by_cases h1:48 ≤ a ∧ a ≤ 57
 ·rw [if_pos h1]
  exact TSs.if_ret (TB.rng rfl (by simp [h1])) (TSs.ret (TE.bin (TE.loc rfl) TE.int Z7))
 ·rw [if_neg h1]
  refine TSs.if_go (TB.rng rfl (by simpa using fun h => by omega)) ?_
  by_cases h2:97 ≤ a ∧ a ≤ 122
  ·rw [if_pos h2]
   exact TSs.if_ret (TB.rng rfl (by simp [h2])) (TSs.ret (TE.bin (TE.loc rfl) TE.int Z7))
  ·rw [if_neg h2]
   refine TSs.if_go (TB.rng rfl (by simpa using fun h => by omega)) ?_
   by_cases h3:65 ≤ a ∧ a ≤ 90
   ·rw [if_pos h3]
    exact TSs.if_ret (TB.rng rfl (by simp [h3])) (TSs.ret (TE.bin (TE.loc rfl) TE.int Z7))
   ·rw [if_neg h3]
    exact TSs.if_go (TB.rng rfl (by simpa using fun h => by omega)) (TSs.ret (TE.un TE.int ZmH))
theorem Zi7:OpV 1 (Fn (.ref 117)) [.int a] σ (.int (ZaK a)) σ:=Zf (k:=0) Zc1 rfl rfl Zj6 (by simp [V.lt])
end
section
variable {sc:Scope} {σ:List AO} {a b:Int} {ks:List Int} {d:Nat}
theorem TEs.one {e:ME} {ρ:List (Option V)} {v:V} {σ₁:List AO} (h:TE sc d e ρ σ v σ₁):TEs sc d [e] ρ σ [v] σ₁:=TEs.cons h TEs.nil
noncomputable def Zz (p:Int → Bool) (ks:List Int) (i:Nat):Nat:=i + ((ks.drop i).takeWhile p).length
theorem ZW {p:Int → Bool} {i:Nat} (h:ks.length ≤ i ∨ p (ks.getD i 0) = false):Zz p ks i = i:=by
 unfold Zz
 rcases Nat.lt_or_ge i ks.length with hi | hi
 ·rcases h with h | h
  ·omega
  ·rw [List.drop_eq_getElem_cons hi]
   have:p ks[i] = false:=by
    rw [List.getD_eq_getElem?_getD,List.getElem?_eq_getElem hi] at h;exact h
   rw [List.takeWhile_cons_of_neg (by simp [this])];rfl
 ·rw [List.drop_of_length_le hi];rfl
theorem ZeO {p:Int → Bool} {i:Nat} (hi:i < ks.length) (h:p (ks.getD i 0) = true):Zz p ks i = Zz p ks (i + 1):=by
 unfold Zz
 rw [List.drop_eq_getElem_cons hi]
 have:p ks[i] = true:=by
  rw [List.getD_eq_getElem?_getD,List.getElem?_eq_getElem hi] at h;exact h
 rw [List.takeWhile_cons,if_pos this,List.length_cons]
 omega
theorem Zm4 (p:Int → Bool) (ks:List Int) (i:Nat):i ≤ Zz p ks i:=Nat.le_add_right _ _
theorem Zi8 {p:Int → Bool} {i:Nat} (h:i ≤ ks.length):Zz p ks i ≤ ks.length:=by
 unfold Zz
 have:=(List.takeWhile_sublist p (l:=ks.drop i)).length_le
 rw [List.length_drop] at this
 omega
theorem Oct.get (h:Oct ks) {i:Nat}:0 ≤ ks.getD i 0 ∧ ks.getD i 0 < 256:=by
 rw [List.getD_eq_getElem?_getD]
 cases e:ks[i]? with
 | none => simp
 | some x => exact h x (List.mem_of_getElem? e)
theorem TB.atLen {ρ:List (Option V)} {i j:Nat} {n:Nat} (h1:ρ[i]? = some (some (.int n))) (h2:ρ[j]? = some (some (.bytes ks))) (hz:ks.length ≤ 1000000) {r:Bool} (hr:decide (n < ks.length) = r) :
  TB sc d (.cmp (.loc i) [.Lt] [(.call 75 [(.loc j)])]) ρ σ r σ:=by
 refine TB.eqv (TB.cmp (TE.loc h1) (TE.blt (j:=1) rfl rfl rfl (TEs.one (TE.loc h2)) (ZdD hz)) Zbs) ?_
 rw [← hr,Bool.eq_iff_iff,decide_eq_true_iff,decide_eq_true_iff]
 omega
theorem TE.at {ρ:List (Option V)} {i j:Nat} {n:Nat} (h1:ρ[i]? = some (some (.int n))) (h2:ρ[j]? = some (some (.bytes ks))) (hz:ks.length ≤ 1000000) (hn:n < ks.length):TE sc d (.sub (.loc j) (.loc i)) ρ σ (.int (ks.getD n 0)) σ :=
 TE.sub (TE.loc h2) (TE.loc h1) (ZaP (by omega) (by omega) hz)
theorem Zow (ho:Oct ks) (hz:ks.length ≤ 1000000):∀ (k i:Nat),ks.length - i = k → i ≤ ks.length → ∃ n,Wh sc 1 (.bool .And [(.cmp (.loc 1) [.Lt] [(.call 75 [(.loc 0)])]),(.call 0 [(.sub (.loc 0) (.loc 1))])]) [(.assign (.loc 1) (.bin .Add (.loc 1) (.cst (.int (1)))))]
  n [some (.bytes ks),some (.int i)] σ (.next [some (.bytes ks),some (.int (Zz ZG ks i))]) σ:=by
 intro k
 induction k with
 | zero =>
  intro i hk hi
  rw [ZW (.inl (by omega))]
  exact ⟨0,.done (TB.bool (TBs.and_f (TB.atLen rfl rfl hz (by simp;omega))))⟩
 | succ k ih =>
  intro i hk hi
  have hl:i < ks.length:=by omega
  have hb:=ho.get (i:=i)
  have t2:TB sc 1 (.call 0 [(.sub (.loc 0) (.loc 1))]) [some (.bytes ks),some (.int i)] σ (ZG (ks.getD i 0)) σ :=
   TB.val (TE.def rfl Zc0 (TEs.one (TE.at rfl rfl hz hl)) (Zi5 hb.1 hb.2))
  have t1:TB sc 1 (.bool .And [(.cmp (.loc 1) [.Lt] [(.call 75 [(.loc 0)])]),(.call 0 [(.sub (.loc 0) (.loc 1))])]) [some (.bytes ks),some (.int i)] σ (ZG (ks.getD i 0)) σ :=
   TB.eqv (TB.bool (TBs.and' (TB.atLen rfl rfl hz (decide_eq_true hl)) fun _ => TBs.and' t2 fun _ => TBs.and_nil)) (by simp)
  cases hp:ZG (ks.getD i 0) with
  | false =>
   rw [hp] at t1
   rw [ZW (.inr hp)]
   exact ⟨0,.done t1⟩
  | true =>
   rw [hp] at t1
   obtain ⟨n,hn⟩:=ih (i + 1) (by omega) (by omega)
   rw [ZeO hl hp]
   refine ⟨n + 1,.step t1 (TSs.set (v:=.int ((i + 1:Nat):Int)) (TE.eqv (TE.bin (TE.loc rfl) TE.int ZK) ?_) TSs.nil) hn⟩
   simp
theorem Zdp (ho:Oct ks) (hz:ks.length ≤ 1000000) {i:Nat} (hi:i ≤ ks.length):OpV 2 (Fn (.ref 131)) [.bytes ks,.int i] σ (.int (Zz ZG ks i)) σ:=by
 obtain ⟨n,hn⟩:=Zow (sc:=Zb 12 none) (σ:=σ) ho hz _ i rfl hi
 refine Zf (k:=0) (g:=[]) ZaJ rfl rfl ?_ (by simp [V.lt])
 rw [List.append_nil]
 exact TSs.cons (TS.while hn) (TSs.ret (TE.loc rfl))
end
section
variable {sc:Scope} {σ:List AO} {a b:Int} {ks:List Int} {d:Nat}
theorem ZhF (h0:-1000000 ≤ b) (h1:b ≤ 1000000):IntMulOk a b:=IntMulOk.of_right (intBits_le_64 (by omega) (by omega))
theorem Zj7 (h0:-1000000 ≤ a) (h1:a ≤ 1000000):IntMulOk a b:=IntMulOk.of_left (intBits_le_64 (by omega) (by omega))
noncomputable def ZbA (b a:Int):Bool:=decide (0 ≤ ZaK a) && decide (ZaK a < b)
noncomputable def Zm5 (b:Int) (f:Int) (l:List Int):Int:=l.foldl (fun f x => f * b + ZaK x) f
noncomputable def Zcm (b:Int) (ks:List Int) (i:Nat) (f:Int):Int:=Zm5 b f ((ks.drop i).takeWhile (ZbA b))
theorem Zgu {i:Nat} {f:Int} (h:ks.length ≤ i ∨ ZbA b (ks.getD i 0) = false):Zcm b ks i f = f:=by
 unfold Zcm
 rcases Nat.lt_or_ge i ks.length with hi | hi
 ·rcases h with h | h
  ·omega
  ·rw [List.drop_eq_getElem_cons hi]
   have:ZbA b ks[i] = false:=by
    rw [List.getD_eq_getElem?_getD,List.getElem?_eq_getElem hi] at h;exact h
   rw [List.takeWhile_cons_of_neg (by simp [this])];rfl
 ·rw [List.drop_of_length_le hi];rfl
theorem Zm6 {i:Nat} {f:Int} (hi:i < ks.length) (h:ZbA b (ks.getD i 0) = true):Zcm b ks i f = Zcm b ks (i + 1) (f * b + ZaK (ks.getD i 0)):=by
 unfold Zcm
 rw [List.drop_eq_getElem_cons hi]
 have e:ks.getD i 0 = ks[i]:=by rw [List.getD_eq_getElem?_getD,List.getElem?_eq_getElem hi];rfl
 rw [e] at h ⊢
 rw [List.takeWhile_cons_of_pos h]
 rfl
noncomputable def Zp9:List MS:=[(.assign (.loc 4) (.call 1 [(.sub (.loc 0) (.loc 1))])),(.ife (.bool .Or [(.cmp (.loc 4) [.Lt] [(.cst (.int (0)))]),(.cmp (.loc 4) [.GtE] [(.loc 2)])]) [.brk] []),(.assign (.loc 3) (.bin .Add (.bin .Mult (.loc 3) (.loc 2)) (.loc 4))),(.assign (.loc 1) (.bin .Add (.loc 1) (.cst (.int (1)))))]
theorem Zox (hz:ks.length ≤ 1000000) (hb0:0 < b) (hb1:b ≤ 36):∀ (k i:Nat) (f:Int) (dg:Option V),ks.length - i = k → i ≤ ks.length → ∃ n dg',Wh sc 1 (.cmp (.loc 1) [.Lt] [(.call 75 [(.loc 0)])]) Zp9
  n [some (.bytes ks),some (.int i),some (.int b),some (.int f),dg] σ (.next [some (.bytes ks),some (.int (Zz (ZbA b) ks i)),some (.int b),some (.int (Zcm b ks i f)),dg']) σ:=by
 intro k
 induction k with
 | zero =>
  intro i f dg hk hi
  rw [ZW (.inl (by omega)),Zgu (.inl (by omega))]
  exact ⟨0,dg,.done (TB.atLen rfl rfl hz (decide_eq_false (by omega)))⟩
 | succ k ih =>
  intro i f dg hk hi
  have hl:i < ks.length:=by omega
  have t0:TE sc 1 (.call 1 [(.sub (.loc 0) (.loc 1))]) [some (.bytes ks),some (.int i),some (.int b),some (.int f),dg] σ (.int (ZaK (ks.getD i 0))) σ :=
   TE.def rfl Zc1 (TEs.one (TE.at rfl rfl hz hl)) Zi7
  have t1:TB sc 1 (.bool .Or [(.cmp (.loc 4) [.Lt] [(.cst (.int (0)))]),(.cmp (.loc 4) [.GtE] [(.loc 2)])]) [some (.bytes ks),some (.int i),some (.int b),some (.int f),some (.int (ZaK (ks.getD i 0)))] σ (!(ZbA b (ks.getD i 0))) σ:=by
   refine TB.eqv (TB.bool (TBs.or' (TB.cmp (TE.loc rfl) TE.int Zbs) fun _ => TBs.or' (TB.cmp (TE.loc rfl) (TE.loc rfl) Zex) fun _ => TBs.or_nil)) ?_
   unfold ZbA
   rw [Bool.or_false,Bool.not_and,← decide_not,← decide_not]
   congr 1
   ·rw [Bool.eq_iff_iff,decide_eq_true_iff,decide_eq_true_iff];omega
   ·rw [Bool.eq_iff_iff,decide_eq_true_iff,decide_eq_true_iff];omega
  cases hp:ZbA b (ks.getD i 0) with
  | false =>
   rw [hp] at t1
   rw [ZW (.inr hp),Zgu (.inr hp)]
   exact ⟨0,_,.brk (TB.atLen rfl rfl hz (decide_eq_true hl)) (TSs.set t0 (TSs.stop (TS.if_t t1 (TSs.stop TS.brk trivial)) trivial))⟩
  | true =>
   rw [hp] at t1
   obtain ⟨n,dg',hn⟩:=ih (i + 1) (f * b + ZaK (ks.getD i 0)) (some (.int (ZaK (ks.getD i 0)))) (by omega) (by omega)
   rw [ZeO hl hp,Zm6 hl hp]
   refine ⟨n + 1,dg',.step (TB.atLen rfl rfl hz (decide_eq_true hl)) (TSs.set t0 (TSs.if_go t1 (TSs.set (TE.bin (TE.bin (TE.loc rfl) (TE.loc rfl) (ZjS (ZhF (by omega) (by omega)))) (TE.loc rfl) ZK)
    (TSs.set (v:=.int ((i + 1:Nat):Int)) (TE.eqv (TE.bin (TE.loc rfl) TE.int ZK) ?_) TSs.nil)))) hn⟩
   simp
theorem Zgv (hz:ks.length ≤ 1000000) (hb0:0 < b) (hb1:b ≤ 36) {i:Nat} (hi:i ≤ ks.length) :
  OpV 2 (Fn (.ref 124)) [.bytes ks,.int i,.int b] σ (.tup [.int (Zcm b ks i 0),.int (Zz (ZbA b) ks i)]) σ:=by
 obtain ⟨n,dg',hn⟩:=Zox (sc:=Zb 11 none) (σ:=σ) hz hb0 hb1 _ i 0 none rfl hi
 refine Zf (k:=2) (g:=[]) ZbZ rfl rfl ?_ (by simp [V.lt,V.lts])
 rw [List.append_nil]
 exact TSs.set TE.int (TSs.cons (TS.while hn) (TSs.ret (TE.tup (TEs.cons (TE.loc rfl) (TEs.one (TE.loc rfl))) (by simp))))
end
section
variable {sc:Scope} {σ g:List AO} {a b:Int} {ks:List Int} {d:Nat} {x y:AO} {ρ:List (Option V)}
noncomputable def Bits (w:Nat):Prop:=w = 8 ∨ w = 16 ∨ w = 32 ∨ w = 64
noncomputable def ZkR (n:Int) (w:Nat):Int:=if 2 ^ (w - 1) ≤ n % 2 ^ w then n % 2 ^ w - 2 ^ w else n % 2 ^ w
theorem Zj8 (x:Int):Builtin.bitAnd x 18446744073709551615 = x % 18446744073709551616:=by
 unfold Builtin.bitAnd
 by_cases h:0 ≤ x
 ·simp only [h,decide_true,show (0:Int) ≤ 18446744073709551615 by decide]
  have:=Nat.and_two_pow_sub_one_eq_mod x.toNat 64
  simp only [show (18446744073709551615:Int).toNat = 2 ^ 64 - 1 by decide,this]
  obtain ⟨m,rfl⟩:=Int.eq_ofNat_of_zero_le h
  rfl
 ·simp only [h,decide_false,show (0:Int) ≤ 18446744073709551615 by decide,decide_true]
  have:=Nat.and_two_pow_sub_one_eq_mod (Builtin.bitNot x).toNat 64
  rw [show (18446744073709551615:Int).toNat = 2 ^ 64 - 1 by decide,Nat.and_comm,this]
  unfold Builtin.bitNot
  omega
theorem Zm7 {n:Int} {w:Nat} (hw:Bits w):Builtin.bitAnd n (1 * 2 ^ (w:Int).toNat - 1) = n % 2 ^ w:=by
 rcases hw with rfl | rfl | rfl | rfl
 ·exact bitAnd_m8 n
 ·exact bitAnd_m16 n
 ·exact bitAnd_m32 n
 ·exact Zj8 n
theorem Bits.pos {w:Nat} (hw:Bits w):8 ≤ w ∧ w ≤ 64:=by rcases hw with rfl | rfl | rfl | rfl <;> omega
theorem Zoy {n:Int} {w:Nat} (hw:Bits w):OpV 1 (Fn (.ref 103)) [.int n,.int w] σ (.int (ZkR n w)) σ:=by
 obtain ⟨w0,w1⟩:=hw.pos
 refine Zf (k:=1) (g:=[]) ZfB rfl rfl ?_ (by simp [V.lt])
 rw [List.append_nil]
 have sh:∀ {ρ:List (Option V)},ρ[1]? = some (some (.int (w:Int))) → TE (Zb 7 none) 0 (.bin .LShift (.cst (.int (1))) (.loc 1)) ρ σ (.int (2 ^ w)) σ:=fun h =>
  TE.eqv (TE.bin TE.int (TE.loc h) (ZjT (a:=1) (by omega) (by omega) (by decide))) (by rw [Int.one_mul];rfl)
 have t1:TE (Zb 7 none) 0 (.bin .BitAnd (.loc 0) (.bin .Sub (.bin .LShift (.cst (.int (1))) (.loc 1)) (.cst (.int (1))))) [some (.int n),some (.int w),none] σ (.int (n % 2 ^ w)) σ:=by
  refine TE.eqv (TE.bin (TE.loc rfl) (TE.bin (sh rfl) TE.int Z7) ZpX) ?_
  rw [← Zm7 hw,Int.one_mul];rfl
 refine TSs.set t1 ?_
 have t2:TB (Zb 7 none) 0 (.cmp (.loc 2) [.GtE] [(.bin .LShift (.cst (.int (1))) (.bin .Sub (.loc 1) (.cst (.int (1)))))]) [some (.int n),some (.int w),some (.int (n % 2 ^ w))] σ (decide ((2:Int) ^ (w - 1) ≤ n % 2 ^ w)) σ:=by
  refine TB.eqv (TB.cmp (TE.loc rfl) (TE.bin TE.int (TE.bin (TE.loc rfl) TE.int Z7) (ZjT (a:=1) (by omega) (by omega) (by decide))) Zex) ?_
  have e:((w:Int) - 1).toNat = w - 1:=by omega
  rw [Int.one_mul,e]
 unfold ZkR
 by_cases h:(2:Int) ^ (w - 1) ≤ n % 2 ^ w
 ·rw [if_pos h]
  rw [decide_eq_true h] at t2
  exact TSs.if_ret t2 (TSs.ret (TE.bin (TE.loc rfl) (sh rfl) Z7))
 ·rw [if_neg h]
  rw [decide_eq_false h] at t2
  exact TSs.if_go t2 (TSs.ret (TE.loc rfl))
end
section
variable {sc:Scope} {σ g:List AO} {a b:Int} {ks:List Int} {d:Nat} {x y:AO} {ρ:List (Option V)}
theorem TE.atPlus {i j n:Nat} (h1:ρ[i]? = some (some (.int n))) (h2:ρ[j]? = some (some (.bytes ks))) (hz:ks.length ≤ 1000000) {m:Nat} (hn:n + m < ks.length):TE sc d (.sub (.loc j) (.bin .Add (.loc i) (.cst (.int m)))) ρ σ (.int (ks.getD (n + m) 0)) σ:=by
 refine TE.eqv (TE.sub (TE.loc h2) (TE.bin (TE.loc h1) TE.int ZK) (ZaP (by omega) (by omega) hz)) ?_
 congr 2
theorem TB.lenPlus {i j n:Nat} (h1:ρ[i]? = some (some (.int n))) (h2:ρ[j]? = some (some (.bytes ks))) (hz:ks.length ≤ 1000000) {m:Nat} {r:Bool} (hr:decide (n + m < ks.length) = r) :
  TE sc d (.cmp (.bin .Add (.loc i) (.cst (.int m))) [.Lt] [(.call 75 [(.loc j)])]) ρ σ (.bool r) σ:=by
 refine TE.eqv (TE.cmp (TE.bin (TE.loc h1) TE.int ZK) (TE.blt (j:=1) rfl rfl rfl (TEs.one (TE.loc h2)) (ZdD hz)) Zbs) ?_
 rw [← hr]
 congr 1
 rw [Bool.eq_iff_iff,decide_eq_true_iff,decide_eq_true_iff]
 omega
noncomputable def Z9 (ks:List Int) (i:Nat):Nat × Bool:=if i < ks.length ∧ (ks.getD i 0 = 43 ∨ ks.getD i 0 = 45) then (i + 1,decide (ks.getD i 0 = 45)) else (i,false)
theorem Zi9 {k:Int}:[43,45].contains k = decide (k = 43 ∨ k = 45):=by
 rw [Bool.eq_iff_iff,List.contains_iff_mem,decide_eq_true_iff];simp
theorem Zm8 (ho:Oct ks) (hz:ks.length ≤ 1000000) {L:V} {i:Nat} {ms:List MS} {o:Out} {σ':List AO}
  (h:TSs sc 2 ms [some (.bytes ks),some (.int 0),some L,some (.int (Z9 ks i).1),some (.bool (Z9 ks i).2),none,none,none] σ o σ') :
  TSs sc 2 ((.ife (.bool .And [(.cmp (.loc 3) [.Lt] [(.call 75 [(.loc 0)])]),(.cmp (.sub (.loc 0) (.loc 3)) [.In] [(.cst (.bytes [43,45]))])]) [(.assign (.loc 4) (.cmp (.sub (.loc 0) (.loc 3)) [.Eq] [(.cst (.int (45)))])),(.assign (.loc 3) (.bin .Add (.loc 3) (.cst (.int (1)))))] []) :: ms)
   [some (.bytes ks),some (.int 0),some L,some (.int (i:Nat)),some (.bool false),none,none,none] σ o σ':=by
 by_cases hl:i < ks.length
 ·have hb:=ho.get (i:=i)
  have t:TB sc 2 (.bool .And [(.cmp (.loc 3) [.Lt] [(.call 75 [(.loc 0)])]),(.cmp (.sub (.loc 0) (.loc 3)) [.In] [(.cst (.bytes [43,45]))])]) [some (.bytes ks),some (.int 0),some L,some (.int (i:Nat)),some (.bool false),none,none,none] σ (decide (ks.getD i 0 = 43 ∨ ks.getD i 0 = 45)) σ:=by
   refine TB.eqv (TB.bool (TBs.and' (TB.atLen rfl rfl hz (decide_eq_true hl)) fun _ => TBs.and' (TB.cmp (TE.at rfl rfl hz hl) TE.byt (Zay hb.1 hb.2)) fun _ => TBs.and_nil)) ?_
   rw [Bool.true_and,Bool.and_true]
   exact Zi9
  by_cases hs:ks.getD i 0 = 43 ∨ ks.getD i 0 = 45
  ·rw [decide_eq_true hs] at t
   have e:Z9 ks i = (i + 1,decide (ks.getD i 0 = 45)):=by unfold Z9;rw [if_pos ⟨hl,hs⟩]
   rw [e] at h
   refine TSs.if_do t (TSs.set (v:=.bool (decide (ks.getD i 0 = 45))) (TE.eqv (TE.cmp (TE.at rfl rfl hz hl) TE.int op_eq) ?_) (TSs.set (v:=.int ((i + 1:Nat):Int)) (TE.eqv (TE.bin (TE.loc rfl) TE.int ZK) (by simp)) TSs.nil)) h
   congr 1
  ·rw [decide_eq_false hs] at t
   have e:Z9 ks i = (i,false):=by unfold Z9;rw [if_neg (fun q => hs q.2)]
   rw [e] at h
   exact TSs.if_go t h
 ·have e:Z9 ks i = (i,false):=by unfold Z9;rw [if_neg (fun q => hl q.1)]
  rw [e] at h
  exact TSs.if_go (TB.bool (TBs.and_f (TB.atLen rfl rfl hz (decide_eq_false hl)))) h
end
section
variable {sc:Scope} {σ g:List AO} {a b:Int} {ks:List Int} {d:Nat} {x y:AO} {ρ:List (Option V)}
noncomputable def Zbk (ks:List Int) (i:Nat):Prop:=¬ (i + 2 < ks.length ∧ ks.getD i 0 = 48 ∧ (ks.getD (i + 1) 0 = 120 ∨ ks.getD (i + 1) 0 = 88))
theorem xX_contains {k:Int}:[120,88].contains k = decide (k = 120 ∨ k = 88):=by
 rw [Bool.eq_iff_iff,List.contains_iff_mem,decide_eq_true_iff];simp
theorem Zm9 (ho:Oct ks) (hz:ks.length ≤ 1000000) {i:Nat} (h:Zbk ks i) {ρ:List (Option V)} (h0:ρ[0]? = some (some (.bytes ks))) (h3:ρ[3]? = some (some (.int (i:Nat)))) :
  TE sc 2 (.bool .And [(.cmp (.bin .Add (.loc 3) (.cst (.int (2)))) [.Lt] [(.call 75 [(.loc 0)])]),(.cmp (.sub (.loc 0) (.loc 3)) [.Eq] [(.cst (.int (48)))]),(.cmp (.sub (.loc 0) (.bin .Add (.loc 3) (.cst (.int (1))))) [.In] [(.cst (.bytes [120,88]))]),(.cmp (.loc 1) [.In] [(.tup [(.cst (.int (0))),(.cst (.int (16)))])])]) ρ σ (.bool false) σ:=by
 by_cases q1:i + 2 < ks.length
 ·refine TE.bool (TVs.go (TB.lenPlus (m:=2) h3 h0 hz (decide_eq_true q1)) rfl ?_)
  by_cases q2:ks.getD i 0 = 48
  ·refine TVs.go (b:=true) (TE.eqv (TE.cmp (TE.at h3 h0 hz (by omega)) TE.int op_eq) (by rw [q2];rfl)) rfl ?_
   have hb:=ho.get (i:=i + 1)
   refine TVs.stop (b:=false) (TE.eqv (TE.cmp (TE.atPlus (m:=1) h3 h0 hz (by omega)) TE.byt (Zay hb.1 hb.2)) ?_) rfl
   congr 1
   refine xX_contains.trans (decide_eq_false fun q3 => h ⟨q1,q2,q3⟩)
  ·exact TVs.stop (b:=false) (TE.eqv (TE.cmp (TE.at h3 h0 hz (by omega)) TE.int op_eq) (by congr 1;exact beq_eq_false_iff_ne.mpr q2)) rfl
 ·exact TE.bool (TVs.stop (TB.lenPlus (m:=2) h3 h0 hz (decide_eq_false q1)) rfl)
noncomputable def Zap (ks:List Int) (w:Nat):V :=
 let i:=(Z9 ks (Zz ZG ks 0)).1
 let e:=Zz (ZbA 10) ks i
 if e = i ∨ Zz ZG ks e ≠ ks.length then .none
 else .int (ZkR (if (Z9 ks (Zz ZG ks 0)).2 then -(Zcm 10 ks i 0) else Zcm 10 ks i 0) w)
theorem ZfR (ho:Oct ks) (hz:ks.length ≤ 1000000) {kL w:Nat} {fs:List (Nat × V)} (hL:σ[kL]? = some (.inst 53 fs)) (hf:Zbw 0 fs = some (.int w)) (hw:Bits w) (hm:Zbk ks (Z9 ks (Zz ZG ks 0)).1) :
  OpV 3 (Fn (.ref 145)) [.bytes ks,.int 0,.ref kL] σ (Zap ks w) σ:=by
 have hi0:Zz ZG ks 0 ≤ ks.length:=Zi8 (Nat.zero_le _)
 have hi:(Z9 ks (Zz ZG ks 0)).1 ≤ ks.length:=by
  unfold Z9;split
  ·rename_i q;exact q.1
  ·exact hi0
 refine Zf (k:=5) (g:=[]) ZbJ rfl rfl ?_ (by unfold Zap;dsimp only;split <;> simp [V.lt])
 rw [List.append_nil]
 have t0:TEs (Zb 14 none) 2 [(.call 3 [(.loc 0),(.cst (.int (0)))]),(.cst (.bool false))] [some (.bytes ks),some (.int 0),some (.ref kL),none,none,none,none,none] σ [.int (Zz ZG ks 0),.bool false] σ :=
  TEs.cons (TE.def rfl ZaJ (TEs.cons (TE.loc rfl) (TEs.one TE.int)) (Zdp (i:=0) ho hz (Nat.zero_le _))) (TEs.one TE.tt)
 refine TSs.cons (TS.pack t0 (is:=[3,4]) rfl (.inl rfl) rfl (by decide) (by simp)) ?_
 refine Zm8 ho hz ?_
 unfold Zap
 dsimp only
 generalize hI:(Z9 ks (Zz ZG ks 0)).1 = i at hi hm ⊢
 generalize (Z9 ks (Zz ZG ks 0)).2 = neg
 refine TSs.set (Zm9 ho hz hm rfl rfl) ?_
 refine TSs.if_go (TB.bool (TBs.and_f (TB.val (TE.loc rfl)))) ?_
 have tb:TE (Zb 14 none) 2 (.ite (.cmp (.loc 1) [.Eq] [(.cst (.int (0)))]) (.cst (.int (10))) (.loc 1)) [some (.bytes ks),some (.int 0),some (.ref kL),some (.int i),some (.bool neg),some (.bool false),none,none] σ (.int 10) σ :=
  TE.ite_t (TB.eqv (TB.cmp (TE.loc rfl) TE.int op_eq) rfl) TE.int
 have tr:TE (Zb 14 none) 2 (.call 2 [(.loc 0),(.loc 3),(.ite (.cmp (.loc 1) [.Eq] [(.cst (.int (0)))]) (.cst (.int (10))) (.loc 1))]) [some (.bytes ks),some (.int 0),some (.ref kL),some (.int i),some (.bool neg),some (.bool false),none,none] σ (.tup [.int (Zcm 10 ks i 0),.int (Zz (ZbA 10) ks i)]) σ :=
  TE.def (f:=2) rfl ZbZ (TEs.cons (TE.loc rfl) (TEs.cons (TE.loc rfl) (TEs.one tb))) (Zgv (σ:=σ) (b:=10) hz (by omega) (by omega) hi)
 refine TSs.cons (TS.assign tr (TA.tup (TAs.slots (is:=[6,7]) rfl rfl))) ?_
 have he:=Zi8 (p:=ZbA 10) hi
 have hge:=Zm4 (ZbA 10) ks i
 generalize Zz (ZbA 10) ks i = e at he hge ⊢
 show TSs _ _ _ [some (.bytes ks),some (.int 0),some (.ref kL),some (.int i),some (.bool neg),some (.bool false),some (.int (Zcm 10 ks i 0)),some (.int e)] _ _ _
 have tt:TB (Zb 14 none) 2 (.bool .Or [(.cmp (.loc 7) [.Eq] [(.loc 3)]),(.cmp (.call 3 [(.loc 0),(.loc 7)]) [.NotEq] [(.call 75 [(.loc 0)])])]) [some (.bytes ks),some (.int 0),some (.ref kL),some (.int i),some (.bool neg),some (.bool false),some (.int (Zcm 10 ks i 0)),some (.int e)] σ
   (decide (e = i ∨ Zz ZG ks e ≠ ks.length)) σ:=by
  refine TB.eqv (TB.bool (TBs.or' (TB.cmp (TE.loc rfl) (TE.loc rfl) op_eq) fun _ => TBs.or' (TB.cmp (TE.def rfl ZaJ (TEs.cons (TE.loc rfl) (TEs.one (TE.loc rfl))) (Zdp ho hz he)) (TE.blt (j:=1) rfl rfl rfl (TEs.one (TE.loc rfl)) (ZdD hz)) Zew) fun _ => TBs.or_nil)) ?_
  rw [Bool.or_false,Bool.eq_iff_iff,Bool.or_eq_true,decide_eq_true_iff,beq_iff_eq,bne_iff_ne]
  omega
 by_cases hc:e = i ∨ Zz ZG ks e ≠ ks.length
 ·rw [if_pos hc]
  rw [decide_eq_true hc] at tt
  exact TSs.if_ret tt (TSs.ret TE.none)
 ·rw [if_neg hc]
  rw [decide_eq_false hc] at tt
  refine TSs.if_go tt (TSs.ret ?_)
  refine TE.def rfl ZfB (TEs.cons ?_ (TEs.one (TE.attr (TE.loc rfl) (ZA (.head _) (by decide) hL hf (by simp))))) ((Zoy hw).more (by decide))
  cases neg with
  | true => exact TE.ite_t (TB.val (TE.loc rfl)) (TE.un (TE.loc rfl) ZmH)
  | false => exact TE.ite_f (TB.val (TE.loc rfl)) (TE.loc rfl)
end
structure TypeMeth (T:String) (n:Nat) (id:String):Prop where
 ga:∃ g,typeLookup (.type T) "__getattribute__" = pure (some (.builtin g)) ∧ (Manifest.canonical g != "object.__getattribute__") = false
 gt:typeLookup (.type T) "__getattr__" = pure none
 look:∀ nm,AN[n]? = some nm → typeLookup (.type T) nm = pure (some (.builtin id))
 kind:typeOf (.builtin id) = pure (.type "method_descriptor")
theorem TypeMeth.get {M:Model} {A:Around} {E:Value → Shared → Prop} {s:Shared} {T id:String} {n:Nat} {nm:Str} {obj:Value} {pl:Sem Bool} {Q:Value × List Value → Shared → Prop} (t:TypeMeth T n id) (hn:AN[n]? = some nm) (hT:s.TypeIs obj T)
  (hd:∀ a,obj = .ref a → ∃ o,s.heap.get? a = some o ∧ o.dict = none) (h:Q (.builtin id,[obj]) s):PySem.wpAny M A (getMethod obj nm pl) Q E s:=by
 obtain ⟨⟨g,g1,g2⟩,t2,t3,t4⟩:=t
 unfold getMethod
 refine PySem.wpAny_bind (PySem.wpAny_specialOf hT g1 ?_)
 dsimp only
 rw [g2,if_neg (by decide)]
 refine PySem.wpAny_bind (PySem.wpAny_specialOf hT t2 ?_)
 refine PySem.wpAny_bind (PySem.wpAny_specialOf hT (t3 nm hn) ?_)
 refine PySem.wpAny_bind (PySem.wpAny_of_eq t4 ?_)
 cases obj
 case ref a =>
  obtain ⟨o,e1,e2⟩:=hd a rfl
  refine PySem.wpAny_bind (PySem.wpAny_load e1 ?_)
  rw [e2]
  exact PySem.wpAny_bind (PySem.wpAny_rule (PySem.wpAny_pure h))
 all_goals exact PySem.wpAny_bind (PySem.wpAny_rule (PySem.wpAny_pure h))
theorem ZI:TypeMeth "list" 28 "list.append":=⟨⟨"list.__getattribute__",by rw [typeLookup_type,builtinLookup_eq_fast];kernel_rfl,by decide +kernel⟩,by rw [typeLookup_type,builtinLookup_eq_fast];kernel_rfl,fun nm h => by cases h;rw [typeLookup_type,builtinLookup_eq_fast];kernel_rfl,by show builtinType _ = _;rw [builtinType_eq_fast];kernel_rfl⟩
theorem Zb3:TypeMeth "list" 29 "list.extend":=⟨⟨"list.__getattribute__",by rw [typeLookup_type,builtinLookup_eq_fast];kernel_rfl,by decide +kernel⟩,by rw [typeLookup_type,builtinLookup_eq_fast];kernel_rfl,fun nm h => by cases h;rw [typeLookup_type,builtinLookup_eq_fast];kernel_rfl,by show builtinType _ = _;rw [builtinType_eq_fast];kernel_rfl⟩
theorem Zc3:TypeMeth "list" 30 "list.reverse":=⟨⟨"list.__getattribute__",by rw [typeLookup_type,builtinLookup_eq_fast];kernel_rfl,by decide +kernel⟩,by rw [typeLookup_type,builtinLookup_eq_fast];kernel_rfl,fun nm h => by cases h;rw [typeLookup_type,builtinLookup_eq_fast];kernel_rfl,by show builtinType _ = _;rw [builtinType_eq_fast];kernel_rfl⟩
theorem Zd2:TypeMeth "bytes" 31 "bytes.find":=⟨⟨"bytes.__getattribute__",by rw [typeLookup_type,builtinLookup_eq_fast];kernel_rfl,by decide +kernel⟩,by rw [typeLookup_type,builtinLookup_eq_fast];kernel_rfl,fun nm h => by cases h;rw [typeLookup_type,builtinLookup_eq_fast];kernel_rfl,by show builtinType _ = _;rw [builtinType_eq_fast];kernel_rfl⟩
theorem Zdq:TypeMeth "bytearray" 28 "bytearray.append":=⟨⟨"bytearray.__getattribute__",by rw [typeLookup_type,builtinLookup_eq_fast];kernel_rfl,by decide +kernel⟩,by rw [typeLookup_type,builtinLookup_eq_fast];kernel_rfl,fun nm h => by cases h;rw [typeLookup_type,builtinLookup_eq_fast];kernel_rfl,by show builtinType _ = _;rw [builtinType_eq_fast];kernel_rfl⟩
theorem Zdr:TypeMeth "bytearray" 29 "bytearray.extend":=⟨⟨"bytearray.__getattribute__",by rw [typeLookup_type,builtinLookup_eq_fast];kernel_rfl,by decide +kernel⟩,by rw [typeLookup_type,builtinLookup_eq_fast];kernel_rfl,fun nm h => by cases h;rw [typeLookup_type,builtinLookup_eq_fast];kernel_rfl,by show builtinType _ = _;rw [builtinType_eq_fast];kernel_rfl⟩
theorem tm_dict_get:TypeMeth "dict" 32 "dict.get":=⟨⟨"dict.__getattribute__",by rw [typeLookup_type,builtinLookup_eq_fast];kernel_rfl,by decide +kernel⟩,by rw [typeLookup_type,builtinLookup_eq_fast];kernel_rfl,fun nm h => by cases h;rw [typeLookup_type,builtinLookup_eq_fast];kernel_rfl,by show builtinType _ = _;rw [builtinType_eq_fast];kernel_rfl⟩
section
variable {d k:Nat} {σ:List AO} {vs:List V} {ks:List Int}
theorem Zef {id:String} {w:World} {h₀:Heap}:∃ kk,(kk = Keeper.frame ∨ kk = .machine) ∧ Looks (model pw w) h₀ (keeperOf (.builtin id)) kk:=⟨.machine,.inr rfl,Looks.of_pure rfl⟩
theorem ZP {n:Nat} {id:String} (t:TypeMeth "list" n id) (hk:σ[k]? = some (.list vs)):Zic d n (.ref k) σ (.builtin id):=by
 refine ⟨fun _ _ _ => Zef,fun c ι P s x nm pl Q R S r hn kQ => ?_⟩
 obtain ⟨a,dd,rfl,e⟩:=r.ref'
 obtain ⟨_,items,m,e1,e2⟩:=S.objs _ _ _ _ hk e
 exact up (t.get hn ⟨_,e1,rfl⟩ (fun b hb => by cases hb;exact ⟨_,e1,rfl⟩) (kQ s.toks))
theorem ZdH {n:Nat} {id:String} (t:TypeMeth "bytearray" n id) (hk:σ[k]? = some (.barr ks)):Zic d n (.ref k) σ (.builtin id):=by
 refine ⟨fun _ _ _ => Zef,fun c ι P s x nm pl Q R S r hn kQ => ?_⟩
 obtain ⟨a,dd,rfl,e⟩:=r.ref'
 obtain ⟨_,b,e1,e2⟩:=S.objs _ _ _ _ hk e
 exact up (t.get hn ⟨_,e1,rfl⟩ (fun b hb => by cases hb;exact ⟨_,e1,rfl⟩) (kQ s.toks))
theorem Zgw {n:Nat} {id:String} (t:TypeMeth "bytes" n id):Zic d n (.bytes ks) σ (.builtin id):=by
 refine ⟨fun _ _ _ => Zef,fun c ι P s x nm pl Q R S r hn kQ => ?_⟩
 obtain ⟨b,u,rfl,e⟩:=r.bytes'
 exact up (t.get hn (typeIs_bytes _ _ _) (fun b hb => by cases hb) (kQ s.toks))
theorem St.listAt {h₀ L N ρ ι P h} (S:St h₀ L N ρ ι P σ h) (hk:σ[k]? = some (.list vs)) {x:Value} (r:VR ι P (.ref k) x):∃ a d items n,x = .ref a ∧ ι[k]? = some (a,d) ∧ d = a ∧ h.get? a = some { cls:=.type "list",data:=.seq items n } ∧ VRs ι P vs items.toList:=by
 obtain ⟨a,dd,rfl,e⟩:=r.ref'
 obtain ⟨e0,items,m,e1,e2⟩:=S.objs _ _ _ _ hk e
 exact ⟨a,dd,items,m,rfl,e,e0,e1,e2⟩
theorem ZdI {v:V} (hk:σ[k]? = some (.list vs)) (hz:vs.length ≤ 1000000):OpV d (Fn (.builtin "list.append")) [.ref k,v] σ .none (σ.set k (.list (vs ++ [v]))):=.two fun c ι P s x y R S r1 r2 Q kQ => by
 obtain ⟨a,dd,items,n,rfl,e,rfl,e1,e2⟩:=S.listAt hk r1
 have hsz:items.size = vs.length:=by rw [e2.length];simp
 refine up (append_at e1 (fun h' hs h1 => ?_) (by rw [sizeLine_eq];omega))
 exact kQ ι P h' s.toks (List.prefix_refl _) (.refl _) (S.change e (fun b o hb _ eb => (hs.2 b hb).trans eb) ⟨rfl,_,_,h1,by rw [Array.toList_push];exact e2.snoc r2⟩) _ .none
theorem Zj9 (hk:σ[k]? = some (.list vs)) (hz:vs.length ≤ 1000000):OpV d (Fn (.builtin "list.reverse")) [.ref k] σ .none (σ.set k (.list vs.reverse)):=.one fun c ι P s x R S r1 Q kQ => by
 obtain ⟨a,dd,items,n,rfl,e,rfl,e1,e2⟩:=S.listAt hk r1
 have hsz:items.size = vs.length:=by rw [e2.length];simp
 refine up (call_meets PySem.F.slot_list_reverse ⟨_,e1,rfl⟩ PySem.F.entry_list_reverse (PySem.F.args_list_reverse_1 _) (AutoSeq1.list_reverse_list_0 dd items n (by rw [sizeLine_eq];omega)) ⟨e1,?_⟩)
 have ho':=Heap.get?_update_self (Obj.mapSeq (fun x => x.reverse)) e1 (by rw [mapSeq_reverse];rfl)
 rw [mapSeq_reverse] at ho'
 exact kQ ι P _ s.toks (List.prefix_refl _) (.refl _) (S.change e (fun b o hb _ eb => ((Heap.SameBut.update (h:=s.heap) (a:=dd) (f:=Obj.mapSeq (fun x => x.reverse))).2 b hb).trans eb) ⟨rfl,_,_,ho',e2.reverse⟩) _ .none
theorem Zja {u:V} {ws:List V} (hk:σ[k]? = some (.list vs)) (hu:IsL σ u ws) (hz:vs.length + ws.length ≤ 1000000):OpV d (Fn (.builtin "list.extend")) [.ref k,u] σ .none (σ.set k (.list (vs ++ ws))):=.two fun c ι P s x y R S r1 r2 Q kQ => by
 obtain ⟨a,dd,items,n,rfl,e,rfl,e1,e2⟩:=S.listAt hk r1
 obtain ⟨b,items2,n2,rfl,f1,f2⟩:=hu.items S r2
 have hsz:items.size = vs.length:=by rw [e2.length];simp
 have hsz2:items2.size = ws.length:=by rw [f2.length];simp
 have hsz':items.size + items2.size ≤ sizeLine:=by rw [sizeLine_eq];omega
 refine up (call_meets PySem.F.slot_list_extend ⟨_,e1,rfl⟩ PySem.F.entry_list_extend (PySem.F.args_list_extend_2 _ _) (AutoSeq1.list_extend_list_list_0 dd items n b items2 n2 (extend_door hsz') (Nat.le_trans (Nat.le_add_right _ _) hsz')) ⟨e1,f1,?_⟩)
 have ho':=Heap.get?_update_self (Obj.mapSeq (fun x => x ++ items2)) e1 (by rw [mapSeq_app];rfl)
 rw [mapSeq_app] at ho'
 exact kQ ι P _ s.toks (List.prefix_refl _) (.refl _) (S.change e (fun b o hb _ eb => ((Heap.SameBut.update (h:=s.heap) (a:=dd) (f:=Obj.mapSeq (fun x => x ++ items2))).2 b hb).trans eb) ⟨rfl,_,_,ho',by rw [Array.toList_append];exact e2.append f2⟩) _ .none
end
section
variable {sc:Scope} {σ g:List AO} {a b:Int} {ks:List Int} {d:Nat} {x y:AO}
theorem at0:(σ ++ x :: g)[σ.length]? = some x:=by simp
theorem Zka:(σ ++ x :: g).set σ.length y = σ ++ y :: g:=by simp
theorem Zkb:(σ ++ x :: g) ++ [y] = σ ++ x :: (g ++ [y]):=by simp
noncomputable def lsd (b n:Nat):List Nat:=if h:n < b ∨ b < 2 then [n] else n % b :: lsd b (n / b)
termination_by n
decreasing_by
 have:2 ≤ b:=by omega
 exact Nat.div_lt_self (by omega) (by omega)
theorem Z3 {b n:Nat} (h:n < b):lsd b n = [n]:=by rw [lsd,dif_pos (.inl h)]
theorem Zbo {b n:Nat} (h2:2 ≤ b) (h:b ≤ n):lsd b n = n % b :: lsd b (n / b):=by rw [lsd,dif_neg (by omega)]
noncomputable def ZaA (ks:List Int) (b n:Nat):List Int:=(lsd b n).map fun k => ks.getD k 0
noncomputable def Zkc:List MS:=[(.expr (.callm (.loc 3) 28 [(.sub (.loc 2) (.bin .Mod (.loc 4) (.loc 1)))])),(.assign (.loc 4) (.bin .FloorDiv (.loc 4) (.loc 1)))]
noncomputable def Ziq:ME:=.bool .Or [(.cmp (.loc 4) [.Gt] [(.cst (.int (0)))]),(.cmp (.loc 3) [.Eq] [(.lst [])])]
noncomputable def Zc4 (n:Int) (b:Nat) (ks:List Int) (r:Nat) (k:Nat):List (Option V):=[some (.int n),some (.int b),some (.bytes ks),some (.ref k),some (.int r)]
theorem ZaL {vs:List V} {v:V} (hz:vs.length ≤ 1000000):OpV d (Fn (.builtin "list.append")) [.ref σ.length,v] (σ ++ .list vs :: g) .none (σ ++ .list (vs ++ [v]) :: g):=by
 have:=ZdI (d:=d) (σ:=σ ++ .list vs :: g) (k:=σ.length) (vs:=vs) (v:=v) at0 hz
 rwa [Zka] at this
theorem ZaB (l m:List Int):Za l ++ Za m = Za (l ++ m):=by unfold Za;rw [List.map_append]
theorem Zbl (l:List Int) (m:Int):Za l ++ [V.int m] = Za (l ++ [m]):=by unfold Za;rw [List.map_append];rfl
theorem Zg (l:List Int):(Za l).length = l.length:=by unfold Za;simp
theorem ZhG (l:List Int):(Za l).reverse = Za l.reverse:=by unfold Za;rw [List.map_reverse]
theorem ZkS {n:Int} {b r:Nat} {acc:List Int} (hb:2 ≤ b) (hb':b ≤ 16) (hk:ks.length = 16) (hz:acc.length ≤ 1000) :
  TSs sc 0 Zkc (Zc4 n b ks r σ.length) (σ ++ .list (Za acc) :: g) (.next (Zc4 n b ks (r / b) σ.length)) (σ ++ .list (Za (acc ++ [ks.getD (r % b) 0])) :: g):=by
 have hm:=Nat.mod_lt r (show 0 < b by omega)
 have e:((r:Int) % (b:Int)).toNat = r % b:=by omega
 have t1:TE sc 0 (.sub (.loc 2) (.bin .Mod (.loc 4) (.loc 1))) (Zc4 n b ks r σ.length) (σ ++ .list (Za acc) :: g) (.int (ks.getD (r % b) 0)) (σ ++ .list (Za acc) :: g):=by
  rw [← e]
  exact TE.sub (TE.loc rfl) (TE.bin (TE.loc rfl) (TE.loc rfl) (Z8 (by omega))) (ZaP (by omega) (by omega) (by omega))
 have t2:TE sc 0 (.callm (.loc 3) 28 [(.sub (.loc 2) (.bin .Mod (.loc 4) (.loc 1)))]) (Zc4 n b ks r σ.length) (σ ++ .list (Za acc) :: g) .none (σ ++ .list (Za (acc ++ [ks.getD (r % b) 0])) :: g):=by
  rw [← Zbl]
  exact TE.callm (TE.loc rfl) (ZP ZI at0) (TEs.one t1) (ZaL (by rw [Zg];omega))
 have t3:TE sc 0 (.bin .FloorDiv (.loc 4) (.loc 1)) (Zc4 n b ks r σ.length) (σ ++ .list (Za (acc ++ [ks.getD (r % b) 0])) :: g) (.int ((r / b:Nat):Int)) (σ ++ .list (Za (acc ++ [ks.getD (r % b) 0])) :: g) :=
  TE.eqv (TE.bin (TE.loc rfl) (TE.loc rfl) (Zw (by omega) (by omega))) (by congr 1)
 exact TSs.do t2 (TSs.set t3 TSs.nil)
theorem Zkd {n:Int} {b:Nat} {acc:List Int}:TB sc 0 Ziq (Zc4 n b ks 0 σ.length) (σ ++ .list (Za acc) :: g) (decide (acc = [])) (σ ++ .list (Za acc) :: (g ++ [.list []])):=by
 refine TB.bool (TBs.or_f (TB.eqv (TB.cmp (TE.loc rfl) TE.int ZbW) (by simp)) ?_)
 have t:TB sc 0 (.cmp (.loc 3) [.Eq] [(.lst [])]) (Zc4 n b ks 0 σ.length) (σ ++ .list (Za acc) :: g) (decide (acc = [])) (σ ++ .list (Za acc) :: (g ++ [.list []])):=by
  rw [← Zkb]
  exact TB.cmp (TE.loc rfl) (TE.lst TEs.nil) (Zgl (ks:=acc) (ls:=[]) (show IsL _ (.ref _) _ by rw [Zkb];exact at0) (show (_ ++ [AO.list []])[_]? = some (AO.list (Za [])) by simp [Za]))
 cases h:decide (acc = []) with
 | true => rw [h] at t;exact TBs.or_t t
 | false => rw [h] at t;exact TBs.or_f t TBs.or_nil
theorem Zna {n:Int} {b r:Nat} (hr:0 < r):TB sc 0 Ziq (Zc4 n b ks r σ.length) (σ ++ x :: g) true (σ ++ x :: g) :=
 TB.bool (TBs.or_t (TB.eqv (TB.cmp (TE.loc rfl) TE.int ZbW) (decide_eq_true (by omega))))
theorem Zq4 {n:Int} {b:Nat} (hb:2 ≤ b) (hb':b ≤ 16) (hk:ks.length = 16):∀ (r:Nat) (acc:List Int) (g:List AO),0 < r → acc.length + r.log2 < 900 → ∃ k g',Wh sc 0 Ziq Zkc k (Zc4 n b ks r σ.length) (σ ++ .list (Za acc) :: g) (.next (Zc4 n b ks 0 σ.length)) (σ ++ .list (Za (acc ++ ZaA ks b r)) :: g'):=by
 intro r
 induction r using Nat.strongRecOn with
 | _ r ih =>
  intro acc g hr hz
  have st:=ZkS (sc:=sc) (σ:=σ) (g:=g) (n:=n) (r:=r) (acc:=acc) hb hb' hk (by omega)
  rcases Nat.lt_or_ge r b with h | h
  ·have e0:r / b = 0:=Nat.div_eq_of_lt h
   rw [e0] at st
   have fin:=Zkd (sc:=sc) (ks:=ks) (n:=n) (b:=b) (σ:=σ) (g:=g) (acc:=acc ++ [ks.getD (r % b) 0])
   rw [decide_eq_false (by simp)] at fin
   have e1:acc ++ ZaA ks b r = acc ++ [ks.getD (r % b) 0]:=by unfold ZaA;rw [Z3 h,Nat.mod_eq_of_lt h];rfl
   rw [e1]
   exact ⟨1,_,.step (Zna hr) st (.done fin)⟩
  ·have hlt:r / b < r:=Nat.div_lt_self hr (by omega)
   have hp:0 < r / b:=Nat.div_pos h (by omega)
   have hlog:(r / b).log2 + 1 ≤ r.log2:=by
    have h1:2 * (r / b) ≤ r:=Nat.le_trans (Nat.mul_le_mul_right _ hb) (Nat.mul_div_le r b)
    have h2:(2 * (r / b)).log2 = (r / b).log2 + 1:=Nat.log2_two_mul (by omega)
    rw [← h2]
    exact (Nat.le_log2 (by omega)).mpr (Nat.le_trans (Nat.log2_self_le (by omega)) h1)
   obtain ⟨k,g',hw⟩:=ih (r / b) hlt (acc ++ [ks.getD (r % b) 0]) g hp (by rw [List.length_append];simp;omega)
   have e1:acc ++ ZaA ks b r = acc ++ [ks.getD (r % b) 0] ++ ZaA ks b (r / b):=by unfold ZaA;rw [Zbo hb h];simp
   rw [e1]
   exact ⟨k + 1,g',.step (Zna hr) st hw⟩
theorem ZfC {vs:List V} (hz:vs.length ≤ 1000000):OpV d (Fn (.builtin "list.reverse")) [.ref σ.length] (σ ++ .list vs :: g) .none (σ ++ .list vs.reverse :: g):=by
 have:=Zj9 (d:=d) (σ:=σ ++ .list vs :: g) (k:=σ.length) (vs:=vs) at0 hz
 rwa [Zka] at this
theorem Zgx {b:Nat} (hb:2 ≤ b):∀ n,(lsd b n).length ≤ n.log2 + 1:=by
 intro n
 induction n using Nat.strongRecOn with
 | _ n ih =>
  rcases Nat.lt_or_ge n b with h | h
  ·rw [Z3 h];simp
  ·rw [Zbo hb h]
   have hp:0 < n / b:=Nat.div_pos h (by omega)
   have h1:2 * (n / b) ≤ n:=Nat.le_trans (Nat.mul_le_mul_right _ hb) (Nat.mul_div_le n b)
   have h2:(2 * (n / b)).log2 = (n / b).log2 + 1:=Nat.log2_two_mul (by omega)
   have h3:(n / b).log2 + 1 ≤ n.log2:=by
    rw [← h2]
    exact (Nat.le_log2 (by omega)).mpr (Nat.le_trans (Nat.log2_self_le (by omega)) h1)
   have:=ih (n / b) (Nat.div_lt_self (by omega) (by omega))
   simp only [List.length_cons]
   omega
theorem Znb {n b:Nat} (ho:Oct ks):Oct (ZaA ks b n):=by
 intro k hk
 obtain ⟨j,_,rfl⟩:=List.mem_map.mp hk
 exact ho.get
theorem Oct.reverse (h:Oct ks):Oct ks.reverse:=fun k hk => h k (List.mem_reverse.mp hk)
theorem Zgy {n b:Nat} (hb:2 ≤ b):(ZaA ks b n).length ≤ n.log2 + 1:=by unfold ZaA;rw [List.length_map];exact Zgx hb n
theorem ZbO {n b:Nat} (hb:2 ≤ b) (hb':b ≤ 16) (hk:ks.length = 16) (ho:Oct ks) (hn:n.log2 < 800):OpV 1 (Fn (.ref 215)) [.int n,.int b,.bytes ks] σ (.bytes (ZaA ks b n).reverse) σ:=by
 have main:∃ k g',Wh (Zb 37 none) 0 Ziq Zkc k (Zc4 n b ks n σ.length) (σ ++ .list (Za []) :: []) (.next (Zc4 n b ks 0 σ.length)) (σ ++ .list (Za (ZaA ks b n)) :: g'):=by
  rcases Nat.eq_zero_or_pos n with h | h
  ·subst h
   have t0:=Zkd (sc:=Zb 37 none) (ks:=ks) (n:=((0:Nat):Int)) (b:=b) (σ:=σ) (g:=[]) (acc:=[])
   rw [decide_eq_true rfl] at t0
   have st:=ZkS (sc:=Zb 37 none) (σ:=σ) (g:=[] ++ [.list []]) (n:=((0:Nat):Int)) (r:=0) (acc:=[]) hb hb' hk (by simp)
   have t1:=Zkd (sc:=Zb 37 none) (ks:=ks) (n:=((0:Nat):Int)) (b:=b) (σ:=σ) (g:=[] ++ [.list []]) (acc:=[] ++ [ks.getD (0 % b) 0])
   rw [decide_eq_false (by simp)] at t1
   rw [Nat.zero_div] at st
   have e1:ZaA ks b 0 = [] ++ [ks.getD (0 % b) 0]:=by unfold ZaA;rw [Z3 (by omega),Nat.zero_mod];rfl
   rw [e1]
   exact ⟨1,_,.step t0 st (.done t1)⟩
  ·obtain ⟨k,g',hw⟩:=Zq4 (sc:=Zb 37 none) (σ:=σ) (n:=(n:Int)) hb hb' hk n [] [] h (by simpa using by omega)
   exact ⟨k,g',by simpa using hw⟩
 obtain ⟨k,g',hw⟩:=main
 have hl:=Zgy (ks:=ks) (n:=n) hb
 refine Zf (k:=2) (g:=.list (Za (ZaA ks b n).reverse) :: g') Zad rfl rfl ?_ (by simp [V.lt])
 refine TSs.set (TE.lst TEs.nil) (TSs.set (TE.loc rfl) ?_)
 refine TSs.cons (TS.while hw) ?_
 refine TSs.do (v:=.none) (σ₁:=σ ++ .list (Za (ZaA ks b n).reverse) :: g') ?_ (TSs.ret (TE.blt (j:=2) rfl (by decide +kernel) rfl (TEs.one (TE.loc rfl)) (Z4 (show IsL _ (.ref _) _ from at0) (Znb ho).reverse (by rw [List.length_reverse];omega))))
 rw [← ZhG]
 exact TE.callm (TE.loc rfl) (ZP Zc3 at0) TEs.nil (ZfC (by rw [Zg];omega))
end
section
variable {sc:Scope} {σ g:List AO} {a b:Int} {ks:List Int} {d:Nat} {x y:AO} {ρ:List (Option V)}
theorem Zqa {r:Bool}:OpV d (Un .Not) [.bool r] σ (.bool (!r)) σ:=.one fun c ι P s x R S r1 Q kQ => by
 obtain rfl:=r1.bool'
 show wpAny _ _ (holding [Value.bool r] (truthy (.bool r) >>= fun b => pure (Value.bool (!b)))) _ _ _
 refine wpAny_holding ?_
 exact wpAny_bind (Zl (wpAny_pure (Ze S kQ s.toks _ .bool)))
theorem TE.isi {i j:Nat} {n:Str} {bv:Value} {v:V} {r:Bool} (h:ρ[i]? = some (some v)) (hn:BN[j]? = some n) (hv:bootBuiltins n = some bv) (ho:OpV d (Fn (.builtin "isinstance")) [v,.ext bv] σ (.bool r) σ) :
  TE sc d (.call 78 [(.loc i),(.glob (74 + j))]) ρ σ (.bool r) σ :=
 TE.blt (j:=4) (n:=Str.ofString "isinstance") rfl (by decide +kernel) rfl (TEs.cons (TE.loc h) (TEs.one (TE.gblt hn hv))) ho
noncomputable def ZrT:V → Bool
 | .int _ => true
 | _ => false
theorem is_number_int:OpV 1 (Fn (.ref 96)) [.int a] σ (.bool true) σ:=by
 refine Zf (k:=0) (g:=[]) ZE rfl rfl ?_ (by simp [V.lt])
 rw [List.append_nil]
 refine TSs.ret (TE.bool (TVs.go (TE.isi (j:=11) rfl rfl (by decide +kernel) Zdm) rfl (TVs.one ?_)))
 exact TE.un (TE.isi (j:=12) rfl rfl (by decide +kernel) ZfL) Zqa
theorem is_number_bytes:OpV 1 (Fn (.ref 96)) [.bytes ks] σ (.bool false) σ:=by
 refine Zf (k:=0) (g:=[]) ZE rfl rfl ?_ (by simp [V.lt])
 rw [List.append_nil]
 exact TSs.ret (TE.bool (TVs.stop (TE.isi (j:=11) rfl rfl (by decide +kernel) ZcB) rfl))
theorem is_number_none:OpV 1 (Fn (.ref 96)) [.none] σ (.bool false) σ:=by
 refine Zf (k:=0) (g:=[]) ZE rfl rfl ?_ (by simp [V.lt])
 rw [List.append_nil]
 exact TSs.ret (TE.bool (TVs.stop (TE.isi (j:=11) rfl rfl (by decide +kernel) ZfM) rfl))
noncomputable def dec (n:Nat):List Int:=(lsd 10 n).map fun k:Nat => 48 + (k:Int)
noncomputable def Zac (n:Int):List Int:=(if n < 0 then [45] else []) ++ (dec n.natAbs).reverse
noncomputable def Zqb:List MS:=[(.expr (.callm (.loc 2) 28 [(.bin .Add (.cst (.int (48))) (.bin .Mod (.loc 1) (.cst (.int (10)))))])),(.assign (.loc 1) (.bin .FloorDiv (.loc 1) (.cst (.int (10)))))]
noncomputable def ZeP (n:Int) (r:Nat) (k:Nat):List (Option V):=[some (.int n),some (.int r),some (.ref k)]
theorem Zke {e:ME} {n:Int} {r:Nat} {acc:List Int} {v:Int} (h:TE sc d e (ZeP n r σ.length) (σ ++ .list (Za acc) :: g) (.int v) (σ ++ .list (Za acc) :: g)) (hz:acc.length ≤ 1000) :
  TE sc d (.callm (.loc 2) 28 [e]) (ZeP n r σ.length) (σ ++ .list (Za acc) :: g) .none (σ ++ .list (Za (acc ++ [v])) :: g):=by
 rw [← Zbl]
 exact TE.callm (TE.loc rfl) (ZP ZI at0) (TEs.one h) (ZaL (by rw [Zg];omega))
theorem Zq5 {n:Int}:∀ (r:Nat) (acc:List Int),acc.length + r.log2 < 900 → ∃ k m pre,Wh sc 0 (.cmp (.loc 1) [.Gt] [(.cst (.int (9)))]) Zqb k (ZeP n r σ.length) (σ ++ .list (Za acc) :: g) (.next (ZeP n m σ.length)) (σ ++ .list (Za (acc ++ pre)) :: g) ∧ m ≤ 9 ∧ dec r = pre ++ [48 + (m:Int)] ∧ pre.length ≤ r.log2:=by
 intro r
 induction r using Nat.strongRecOn with
 | _ r ih =>
  intro acc hz
  rcases Nat.lt_or_ge r 10 with h | h
  ·refine ⟨0,r,[],?_,by omega,by unfold dec;rw [Z3 h];rfl,by simp⟩
   rw [List.append_nil]
   exact .done (TB.eqv (TB.cmp (TE.loc rfl) TE.int ZbW) (decide_eq_false (by omega)))
  ·have hp:0 < r / 10:=Nat.div_pos h (by omega)
   have h1:2 * (r / 10) ≤ r:=by omega
   have h2:(2 * (r / 10)).log2 = (r / 10).log2 + 1:=Nat.log2_two_mul (by omega)
   have h3:(r / 10).log2 + 1 ≤ r.log2:=by
    rw [← h2]
    exact (Nat.le_log2 (by omega)).mpr (Nat.le_trans (Nat.log2_self_le (by omega)) h1)
   obtain ⟨k,m,pre,hw,hm,hd,hpl⟩:=ih (r / 10) (Nat.div_lt_self (by omega) (by omega)) (acc ++ [48 + ((r % 10:Nat):Int)]) (by rw [List.length_append];simp;omega)
   refine ⟨k + 1,m,(48 + ((r % 10:Nat):Int)) :: pre,?_,hm,?_,by simp;omega⟩
   ·have t1:TE sc 0 (.bin .Add (.cst (.int (48))) (.bin .Mod (.loc 1) (.cst (.int (10))))) (ZeP n r σ.length) (σ ++ .list (Za acc) :: g) (.int (48 + ((r % 10:Nat):Int))) (σ ++ .list (Za acc) :: g) :=
     TE.eqv (TE.bin TE.int (TE.bin (TE.loc rfl) TE.int (Z8 (a:=(r:Int)) (b:=10) (by omega))) ZK) (by congr 1)
    have t2:=Zke (sc:=sc) (σ:=σ) (g:=g) (d:=0) (n:=n) (r:=r) (acc:=acc) (v:=48 + ((r % 10:Nat):Int)) t1 (by omega)
    have t3:TE sc 0 (.bin .FloorDiv (.loc 1) (.cst (.int (10)))) (ZeP n r σ.length) (σ ++ .list (Za (acc ++ [48 + ((r % 10:Nat):Int)])) :: g) (.int ((r / 10:Nat):Int)) (σ ++ .list (Za (acc ++ [48 + ((r % 10:Nat):Int)])) :: g) :=
     TE.eqv (TE.bin (TE.loc rfl) TE.int (Zw (a:=(r:Int)) (b:=10) (by omega) (by omega))) (by congr 1)
    rw [show acc ++ (48 + ((r % 10:Nat):Int)) :: pre = acc ++ [48 + ((r % 10:Nat):Int)] ++ pre by simp]
    exact .step (TB.eqv (TB.cmp (TE.loc rfl) TE.int ZbW) (decide_eq_true (by omega))) (TSs.do t2 (TSs.set t3 TSs.nil)) hw
   ·have hd':(lsd 10 (r / 10)).map (fun k:Nat => 48 + (k:Int)) = pre ++ [48 + (m:Int)]:=hd
    unfold dec
    rw [Zbo (by omega) h,List.map_cons,hd'];rfl
theorem Zoz (n:Nat):Oct (dec n):=by
 intro k hk
 obtain ⟨j,hj,rfl⟩:=List.mem_map.mp hk
 have:∀ n,∀ j ∈ lsd 10 n,j < 10:=by
  intro n
  induction n using Nat.strongRecOn with
  | _ n ih =>
   intro j hj
   rcases Nat.lt_or_ge n 10 with h | h
   ·rw [Z3 h] at hj;simp at hj;omega
   ·rw [Zbo (by omega) h] at hj
    rcases List.mem_cons.mp hj with rfl | hj
    ·exact Nat.mod_lt _ (by omega)
    ·exact ih _ (Nat.div_lt_self (by omega) (by omega)) _ hj
 have:=this n j hj
 omega
end
section
variable {sc:Scope} {σ g:List AO} {a b:Int} {ks:List Int} {d:Nat} {x y:AO} {ρ:List (Option V)}
theorem Zff (ho:Oct ks) (hz:ks.length ≤ 1000000) {kL w:Nat} {fs:List (Nat × V)} (hL:σ[kL]? = some (.inst 53 fs)) (hf:Zbw 0 fs = some (.int w)) (hw:Bits w) (hm:Zbk ks (Z9 ks (Zz ZG ks 0)).1) :
  OpV 4 (Fn (.ref 138)) [.bytes ks,.ref kL] σ (Zap ks w) σ:=by
 refine Zf (k:=0) (g:=[]) Zbx rfl rfl ?_ (by unfold Zap;dsimp only;split <;> simp [V.lt])
 rw [List.append_nil]
 exact TSs.ret (TE.def rfl ZbJ (TEs.cons (TE.loc rfl) (TEs.cons TE.int (TEs.one (TE.loc rfl)))) (ZfR ho hz hL hf hw hm))
theorem Zhg {v:V}:OpV 5 (Fn (.ref 152)) [.int a,v] σ (.int a) σ:=by
 refine Zf (k:=0) (g:=[]) Zaz rfl rfl ?_ (by simp [V.lt])
 rw [List.append_nil]
 exact TSs.if_ret (TB.val (TE.def rfl ZE (TEs.one (TE.loc rfl)) (is_number_int.more (by decide)))) (TSs.ret (TE.loc rfl))
theorem ZfS (ho:Oct ks) (hz:ks.length ≤ 1000000) {kL w:Nat} {fs:List (Nat × V)} (hL:σ[kL]? = some (.inst 53 fs)) (hf:Zbw 0 fs = some (.int w)) (hw:Bits w) (hm:Zbk ks (Z9 ks (Zz ZG ks 0)).1) :
  OpV 5 (Fn (.ref 152)) [.bytes ks,.ref kL] σ (Zap ks w) σ:=by
 refine Zf (k:=0) (g:=[]) Zaz rfl rfl ?_ (by unfold Zap;dsimp only;split <;> simp [V.lt])
 rw [List.append_nil]
 refine TSs.if_go (TB.val (TE.def rfl ZE (TEs.one (TE.loc rfl)) (is_number_bytes.more (by decide)))) ?_
 exact TSs.if_ret (TB.val (TE.isi (j:=2) rfl rfl (by decide +kernel) ZbY)) (TSs.ret (TE.def rfl Zbx (TEs.cons (TE.loc rfl) (TEs.one (TE.loc rfl))) (Zff ho hz hL hf hw hm)))
theorem Zgz {v:V}:OpV 5 (Fn (.ref 152)) [.none,v] σ .none σ:=by
 refine Zf (k:=0) (g:=[]) Zaz rfl rfl ?_ (by simp [V.lt])
 rw [List.append_nil]
 refine TSs.if_go (TB.val (TE.def rfl ZE (TEs.one (TE.loc rfl)) (is_number_none.more (by decide)))) ?_
 exact TSs.if_go (TB.val (TE.isi (j:=2) rfl rfl (by decide +kernel) Zcg)) (TSs.ret TE.none)
noncomputable def ZfT (fl:List Int) (w:Int) (p:V) (l:Int):List (Nat × V):=[(10,.bytes fl),(0,.int w),(11,p),(12,.int l)]
structure DirAt (σ:List AO) (k:Nat) (fl:List Int) (w:Int) (p:V) (l:Int):Prop where
 at_:σ[k]? = some (.inst 288 (ZfT fl w p l))
 plain:∀ x,p ≠ .ext x
variable {k:Nat} {fl:List Int} {w:Int} {p:V} {l:Int}
theorem Zlz (D:DirAt σ k fl w p l) {e:ME} (h:TE sc d e ρ σ (.ref k) σ):TE sc d (.attr e 10) ρ σ (.bytes fl) σ:=TE.attr h (ZA (.tail _ (.head _)) (by decide) D.at_ rfl (by simp))
theorem ZhH (D:DirAt σ k fl w p l) {e:ME} (h:TE sc d e ρ σ (.ref k) σ):TE sc d (.attr e 0) ρ σ (.int w) σ:=TE.attr h (ZA (.tail _ (.head _)) (by decide) D.at_ rfl (by simp))
theorem Zb4 (D:DirAt σ k fl w p l) {e:ME} (h:TE sc d e ρ σ (.ref k) σ):TE sc d (.attr e 11) ρ σ p σ:=TE.attr h (ZA (.tail _ (.head _)) (by decide) D.at_ rfl D.plain)
theorem Zbm (D:DirAt σ k fl w p l) {e:ME} (h:TE sc d e ρ σ (.ref k) σ):TE sc d (.attr e 12) ρ σ (.int l) σ:=TE.attr h (ZA (.tail _ (.head _)) (by decide) D.at_ rfl (by simp))
theorem Zas (h:σ[k]? = some x):k < σ.length:=by
 exact (List.getElem?_eq_some_iff.mp h).1
theorem Zqc (D:DirAt σ k fl w p l) (h0:0 ≤ a) (h1:a < 256):OpV 1 (Fn (.ref 236)) [.ref k,.int a] σ (.bool (fl.contains a)) σ:=by
 refine Zf (k:=0) (g:=[]) Zby rfl rfl ?_ (by simp [V.lt])
 rw [List.append_nil]
 exact TSs.ret (TE.cmp (TE.loc rfl) (Zlz D (TE.loc rfl)) (Zay h0 h1))
theorem TE.has (D:DirAt σ k fl w p l) {i j:Nat} (h:ρ[i]? = some (some (.ref k))) (hg:GV[j]? = some (.int a)) (h0:0 ≤ a) (h1:a < 256):TE sc (d + 1) (.callm (.loc i) 33 [(.glob j)]) ρ σ (.bool (fl.contains a)) σ :=
 TE.callm (TE.loc h) (Zn (.tail _ (.head _)) (.head _) D.at_ rfl Zby) (TEs.one (TE.glob hg)) ((Zqc D h0 h1).more (by omega))
noncomputable def Zfg (fl:List Int) (w:Int) (body:List Int):List Int :=
 if fl.contains 45 then body ++ List.replicate (w - body.length).toNat 32 else List.replicate (w - body.length).toNat 32 ++ body
theorem ZoA (n c:Int):rep n [c] = List.replicate n.toNat c:=by
 unfold rep
 generalize n.toNat = m
 induction m with
 | zero => rfl
 | succ m ih => rw [List.replicate_succ,List.flatten_cons,ih];rfl
theorem ZlA (n:Int):(max 0 n).toNat = n.toNat:=by
 rcases Int.le_total 0 n with h | h
 ·rw [Int.max_eq_right h]
 ·rw [Int.max_eq_left h,Int.toNat_of_nonpos h];rfl
theorem TE.fill {j:Nat} {e:ME} {c n:Int} (hg:GV[j]? = some (.int c)) (h0:0 ≤ c) (h1:c < 256) (he:TE sc d e ρ (σ ++ [.list (Za [c])]) (.int n) (σ ++ [.list (Za [c])])) (hn:n ≤ 1000) :
  TE sc d (.bin .Mult (.call 76 [(.lst [(.glob j)])]) (.call 79 [(.cst (.int (0))),e])) ρ σ (.bytes (List.replicate n.toNat c)) (σ ++ [.list (Za [c])]):=by
 have hb:Oct [c]:=fun q hq => by simp at hq;omega
 refine TE.eqv (TE.bin (TE.blt (j:=2) rfl (by decide +kernel) rfl (TEs.one (TE.lst (TEs.one (TE.glob hg)) (by simp))) (Z4 (ks:=[c]) (show IsL _ (.ref _) _ from by simp [IsL,Za]) hb (by simp))) (TE.blt (j:=5) rfl (by decide +kernel) rfl (TEs.cons TE.int (TEs.one he)) ZpY) (ZkL (by omega) (by omega) (by simp) (by simp))) ?_
 rw [ZoA,ZlA]
end
section
variable {sc:Scope} {σ g:List AO} {a b:Int} {ks ls:List Int} {d:Nat} {x y:AO} {ρ:List (Option V)} {k:Nat} {fl:List Int} {w:Int} {p:V} {l:Int}
theorem DirAt.app (D:DirAt σ k fl w p l):DirAt (σ ++ g) k fl w p l:=⟨by rw [List.getElem?_append_left (Zas D.at_)];exact D.at_,D.plain⟩
theorem TE.len {i:Nat} (h:ρ[i]? = some (some (.bytes ks))) (hz:ks.length ≤ 1000000):TE sc d (.call 75 [(.loc i)]) ρ σ (.int ks.length) σ:=TE.blt (j:=1) rfl rfl rfl (TEs.one (TE.loc h)) (ZdD hz)
theorem Znc:(Zfg fl w ks).length = max ks.length w.toNat:=by
 have key:ks.length + (w - ks.length).toNat = max ks.length w.toNat:=by
  rcases Nat.le_total ks.length w.toNat with h | h <;> omega
 unfold Zfg
 split <;> rw [List.length_append,List.length_replicate] <;> first | exact key | (rw [Nat.add_comm];exact key)
theorem Oct.app (h:Oct ks) (h':Oct ls):Oct (ks ++ ls):=fun q hq => by
 rcases List.mem_append.mp hq with z | z
 ·exact h q z
 ·exact h' q z
theorem Oct.rep {c:Int} (h:0 ≤ c ∧ c < 256) {n:Nat}:Oct (List.replicate n c):=fun q hq => by rw [(List.mem_replicate.mp hq).2];exact h
theorem Zq6 (h:Oct ks):Oct (Zfg fl w ks):=by
 unfold Zfg
 split
 ·exact h.app (Oct.rep (by decide))
 ·exact (Oct.rep (by decide)).app h
theorem ZhI (D:DirAt σ k fl w p l) (hw:0 ≤ w ∧ w ≤ 1000) (hz:ks.length ≤ 10000):OpV 2 (Fn (.ref 243)) [.ref k,.bytes ks] σ (.bytes (Zfg fl w ks)) σ:=by
 refine Zf (k:=1) (g:=[.list (Za [32])]) Zae rfl rfl ?_ (by simp [V.lt])
 have D':=D.app (g:=[.list (Za [32])])
 refine TSs.set (TE.fill (c:=32) (n:=w - ks.length) rfl (by decide) (by decide) (TE.bin (ZhH D' (TE.loc rfl)) (TE.len rfl (by omega)) Z7) (by omega)) (TSs.ret ?_)
 have th:=TB.val (TE.has (sc:=Zb 38 (some 2)) (d:=0) (j:=22) (a:=45) D' (ρ:=[some (.ref k),some (.bytes ks),some (.bytes (List.replicate (w - ks.length).toNat 32))]) (i:=0) rfl rfl (by decide) (by decide))
 unfold Zfg
 by_cases h:fl.contains 45 = true
 ·rw [if_pos h]
  rw [h] at th
  exact TE.ite_t th (TE.bin (TE.loc rfl) (TE.loc rfl) (Z0 (by simp;omega)))
 ·rw [if_neg h]
  rw [Bool.not_eq_true] at h
  rw [h] at th
  exact TE.ite_f th (TE.bin (TE.loc rfl) (TE.loc rfl) (Z0 (by simp;omega)))
theorem TE.padded (D:DirAt σ k fl w p l) (hw:0 ≤ w ∧ w ≤ 1000) (hz:ks.length ≤ 10000) {i:Nat} (h:ρ[i]? = some (some (.ref k))) {e:ME} (he:TE sc (d + 2) e ρ σ (.bytes ks) σ):TE sc (d + 2) (.callm (.loc i) 34 [e]) ρ σ (.bytes (Zfg fl w ks)) σ :=
 TE.callm (TE.loc h) (Zn (.tail _ (.head _)) (.tail _ (.head _)) D.at_ rfl Zae) (TEs.one he) ((ZhI D hw hz).more (by omega))
noncomputable def isNone:V → Bool
 | .none => true
 | _ => false
noncomputable def Zds (fl:List Int) (w:Int) (p:V) (sign digits:List Int):List Int :=
 Zfg fl w (sign ++ (if fl.contains 48 && !fl.contains 45 && isNone p then List.replicate (w - sign.length - digits.length).toNat 48 ++ digits else digits))
theorem TE.isN {e:ME} (h:TE sc d e ρ σ p σ) (hp:∀ x,p ≠ .ext x):TE sc d (.cmp e [.Is] [(.cst .none)]) ρ σ (.bool (isNone p)) σ:=by
 refine TE.cmp h TE.none ?_
 cases p with
 | none => exact ZmJ
 | ext x => exact absurd rfl (hp x)
 | _ => exact ZmI (by simp) (by simp)
theorem TB.isN {e:ME} (h:TE sc d e ρ σ p σ) (hp:∀ x,p ≠ .ext x):TB sc d (.cmp e [.Is] [(.cst .none)]) ρ σ (isNone p) σ:=by
 refine TB.cmp h TE.none ?_
 cases p with
 | none => exact ZmJ
 | ext x => exact absurd rfl (hp x)
 | _ => exact ZmI (by simp) (by simp)
theorem ZlB (D:DirAt σ k fl w p l) (hw:0 ≤ w ∧ w ≤ 1000) (hz:ks.length ≤ 1000) (hz':ls.length ≤ 1000):OpV 3 (Fn (.ref 250)) [.ref k,.bytes ks,.bytes ls] σ (.bytes (Zds fl w p ks ls)) σ:=by
 have th:TB (Zb 38 (some 3)) 2 (.bool .And [(.callm (.loc 0) 33 [(.glob 25)]),(.un .Not (.callm (.loc 0) 33 [(.glob 22)])),(.cmp (.attr (.loc 0) 11) [.Is] [(.cst .none)])]) [some (.ref k),some (.bytes ks),some (.bytes ls)] σ (fl.contains 48 && !fl.contains 45 && isNone p) σ:=by
  refine TB.eqv (TB.bool (TBs.and' (TB.val (TE.has (d:=1) (j:=25) (a:=48) D rfl rfl (by decide) (by decide))) fun _ => TBs.and' (TB.not (TB.val (TE.has (d:=1) (j:=22) (a:=45) D rfl rfl (by decide) (by decide)))) fun _ => TBs.and' (TB.isN (Zb4 D (TE.loc rfl)) D.plain) fun _ => TBs.and_nil)) ?_
  rw [Bool.and_true,Bool.and_assoc]
 unfold Zds
 cases hc:(fl.contains 48 && !fl.contains 45 && isNone p) with
 | false =>
  rw [hc] at th
  rw [if_neg (by decide)]
  refine Zf (k:=0) (g:=[]) Zaf rfl rfl ?_ (by simp [V.lt])
  rw [List.append_nil]
  exact TSs.if_go th (TSs.ret (TE.padded (d:=0) D hw (by simp;omega) rfl (TE.bin (TE.loc rfl) (TE.loc rfl) (Z0 (by omega)))))
 | true =>
  rw [hc] at th
  rw [if_pos rfl]
  refine Zf (k:=0) (g:=[.list (Za [48])]) Zaf rfl rfl ?_ (by simp [V.lt])
  have D':=D.app (g:=[.list (Za [48])])
  have hr:(List.replicate (w - ks.length - ls.length).toNat (48:Int)).length ≤ 1000:=by rw [List.length_replicate];omega
  have tf:TE (Zb 38 (some 3)) 2 (.bin .Add (.bin .Mult (.call 76 [(.lst [(.glob 25)])]) (.call 79 [(.cst (.int (0))),(.bin .Sub (.bin .Sub (.attr (.loc 0) 0) (.call 75 [(.loc 1)])) (.call 75 [(.loc 2)]))])) (.loc 2)) [some (.ref k),some (.bytes ks),some (.bytes ls)] σ (.bytes (List.replicate (w - ks.length - ls.length).toNat 48 ++ ls)) (σ ++ [.list (Za [48])]) :=
   TE.bin (TE.fill (c:=48) (n:=w - ks.length - ls.length) rfl (by decide) (by decide) (TE.bin (TE.bin (ZhH D' (TE.loc rfl)) (TE.len rfl (by omega)) Z7) (TE.len rfl (by omega)) Z7) (by omega)) (TE.loc rfl) (Z0 (Nat.le_trans (Nat.add_le_add hr hz') (by decide)))
  exact TSs.if_do th (TSs.set tf TSs.nil) (TSs.ret (TE.padded (d:=0) D' hw (by rw [List.length_append,List.length_append];omega) rfl (TE.bin (TE.loc rfl) (TE.loc rfl) (Z0 (by rw [List.length_append];omega)))))
end
section
variable {sc:Scope} {σ g:List AO} {a b:Int} {ks ls:List Int} {d:Nat} {x y:AO} {ρ:List (Option V)} {k:Nat} {fl:List Int} {w:Int} {p:V} {l:Int}
theorem Zm:(σ ++ [x])[σ.length]? = some x:=by simp
theorem ZoB:(σ ++ [x]).set σ.length y = σ ++ [y]:=by simp
theorem ZaS {C fI:Addr} {fn:List Nat} {ms:List (Nat × Addr)} {fs:List (Nat × V)} {n i:Nat} {v:V} {rest:List MS} {o:Out} {σ₂:List AO} (hK:(C,fI,fn,ms) ∈ KT) (hn:n ∈ fn) (h0:ρ[0]? = some (some (.ref σ.length))) (hi:ρ[i]? = some (some v)) (hl:fs.length ≤ 100)
  (hr:TSs sc d rest ρ (σ ++ [.inst C (ZC n v fs)]) o σ₂):TSs sc d (.assign (.attr 0 n) (.loc i) :: rest) ρ (σ ++ [.inst C fs]) o σ₂:=by
 have ta:=TA.attr (sc:=sc) (d:=d) (v:=v) h0 Zm hK hn hl
 rw [ZoB] at ta
 exact TSs.cons (TS.assign (TE.loc hi) ta) hr
theorem Zhh (hp:V.lt (σ.length + 1) p):OpV (d + 1) (Fn (.ref 288)) [.bytes fl,.int w,p,.int l] σ (.ref σ.length) (σ ++ [.inst 288 (ZfT fl w p l)]):=by
 refine Zgm (k:=0) (g:=[]) (o:=.next [some (.ref σ.length),some (.bytes fl),some (.int w),some p,some (.int l)]) (.tail _ (.head _)) Zca rfl ?_ rfl (by simp [Fs.lt,ZfT,V.lt,hp])
 rw [List.append_nil]
 refine ZaS (.tail _ (.head _)) (by decide) rfl rfl (Nat.le_of_ble_eq_true rfl) ?_
 refine ZaS (.tail _ (.head _)) (by decide) rfl rfl (Nat.le_of_ble_eq_true rfl) ?_
 refine ZaS (.tail _ (.head _)) (by decide) rfl rfl (Nat.le_of_ble_eq_true rfl) ?_
 refine ZaS (.tail _ (.head _)) (by decide) rfl rfl (Nat.le_of_ble_eq_true rfl) ?_
 exact TSs.nil
end
section
variable {sc:Scope} {σ g:List AO} {d:Nat} {u v:V}
theorem ZlC (hu:V.lt (σ.length + 1) u) (hv:V.lt (σ.length + 1) v):OpV (d + 1) (Fn (.ref 351)) [u,v] σ (.ref σ.length) (σ ++ [.inst 351 [(13,u),(14,v)]]):=by
 refine Zgm (k:=0) (g:=[]) (o:=.next [some (.ref σ.length),some u,some v]) (.tail _ (.tail _ (.head _))) Zbj rfl ?_ rfl (by simp [Fs.lt,hu,hv])
 rw [List.append_nil]
 refine ZaS (.tail _ (.tail _ (.head _))) (by decide) rfl rfl (by simp) ?_
 refine ZaS (.tail _ (.tail _ (.head _))) (by decide) rfl rfl (Nat.le_of_ble_eq_true rfl) ?_
 exact TSs.nil
theorem Zfh (hu:V.lt (σ.length + 1) u) (hv:V.lt (σ.length + 1) v):OpV (d + 1) (Fn (.ref 458)) [u,v] σ (.ref σ.length) (σ ++ [.inst 458 [(15,u),(16,v)]]):=by
 refine Zgm (k:=0) (g:=[]) (o:=.next [some (.ref σ.length),some u,some v]) (.tail _ (.tail _ (.tail _ (.head _)))) Zc9 rfl ?_ rfl (by simp [Fs.lt,hu,hv])
 rw [List.append_nil]
 refine ZaS (.tail _ (.tail _ (.tail _ (.head _)))) (by decide) rfl rfl (by simp) ?_
 refine ZaS (.tail _ (.tail _ (.tail _ (.head _)))) (by decide) rfl rfl (Nat.le_of_ble_eq_true rfl) ?_
 exact TSs.nil
end
noncomputable def Zi (txt:List Int) (kL kD i:Nat) (sg ln ll:Int) (kB kC:Nat):List (Nat × V) :=
 [(9,.bytes txt),(18,.bytes [61,113]),(19,.bytes [113]),(14,.ref kL),(20,.ref kD),(21,.int i),(22,.int sg),(23,.int ln),(24,.int ll),(25,.ref kB),(26,.ref kC),(27,.none)]
noncomputable def Z1 (txt:List Int) (i:Nat):Int:=if i < txt.length then txt.getD i 0 else -1
noncomputable def LX (τ:List AO) (kX kB:Nat) (F:List (Nat × V)) (acc:List Int):List AO:=(τ.set kX (.inst 661 F)).set kB (.barr acc)
structure LC (τ:List AO) (kX kB kL:Nat):Prop where
 ltX:kX < τ.length
 ltB:kB < τ.length
 ne:kX ≠ kB
 lim:∃ fs,τ[kL]? = some (.inst 53 fs) ∧ Zbw 9 fs = some (.int 1000000)
 neX:kL ≠ kX
 neB:kL ≠ kB
section
variable {τ:List AO} {kX kB kL kD kC i d:Nat} {F F':List (Nat × V)} {acc acc' txt:List Int} {sc:Scope} {ρ:List (Option V)} {sg ln ll:Int}
theorem ZaM:(LX τ kX kB F acc).length = τ.length:=by unfold LX;simp
theorem LC.X (h:LC τ kX kB kL):(LX τ kX kB F acc)[kX]? = some (.inst 661 F):=by
 unfold LX
 rw [List.getElem?_set_ne (Ne.symm h.ne),List.getElem?_set_self h.ltX]
theorem LC.B (h:LC τ kX kB kL):(LX τ kX kB F acc)[kB]? = some (.barr acc):=by
 unfold LX
 rw [List.getElem?_set_self (by simp [h.ltB])]
theorem LC.L (h:LC τ kX kB kL):∃ fs,(LX τ kX kB F acc)[kL]? = some (.inst 53 fs) ∧ Zbw 9 fs = some (.int 1000000):=by
 obtain ⟨fs,h1,h2⟩:=h.lim
 refine ⟨fs,?_,h2⟩
 unfold LX
 rw [List.getElem?_set_ne (Ne.symm h.neB),List.getElem?_set_ne (Ne.symm h.neX)]
 exact h1
theorem LC.setX (h:LC τ kX kB kL):(LX τ kX kB F acc).set kX (.inst 661 F') = LX τ kX kB F' acc:=by
 unfold LX
 rw [List.set_comm _ _ (Ne.symm h.ne),List.set_set]
theorem ZoC:(LX τ kX kB F acc).set kB (.barr acc') = LX τ kX kB F acc':=by
 unfold LX
 rw [List.set_set]
theorem Zpx (hF:Fs.lt τ.length F') (k:Nat) (ao:AO) (e:(LX τ kX kB F' acc')[k]? = some ao):(LX τ kX kB F acc)[k]? = some ao ∨ ao.lt (LX τ kX kB F' acc').length:=by
 by_cases h1:k = kB
 ·subst h1
  have:k < τ.length:=by have:=Zas e;rwa [ZaM] at this
  unfold LX at e
  rw [List.getElem?_set_self (by simp [this])] at e
  cases e
  exact .inr trivial
 ·by_cases h2:k = kX
  ·subst h2
   have:k < τ.length:=by have:=Zas e;rwa [ZaM] at this
   unfold LX at e
   rw [List.getElem?_set_ne (Ne.symm h1),List.getElem?_set_self this] at e
   cases e
   rw [ZaM]
   exact .inr hF
  ·unfold LX at e ⊢
   rw [List.getElem?_set_ne (Ne.symm h1),List.getElem?_set_ne (Ne.symm h2)] at e ⊢
   exact .inl e
theorem Zdt {A:Addr} {n k:Nat} {ms:List MS} {vs:List V} {v:V} {o:Out} {g:List AO} (hc:Zc A sc n ms) (hn:vs.length = n) (hρ:ρ = vs.map some ++ List.replicate k none) (hF:Fs.lt τ.length F')
  (hb:TSs sc d ms ρ (LX τ kX kB F acc) o (LX τ kX kB F' acc' ++ g)) (hv:o.gives v) (hl:v.lt τ.length):OpV (d + 1) (Fn (.ref A)) vs (LX τ kX kB F acc) v (LX τ kX kB F' acc') :=
 ZcM hc hn hρ hb hv (by rw [ZaM,ZaM];exact Nat.le_refl _) (by rw [ZaM];exact hl) (Zpx hF)
theorem Zcn {n:Nat} (h1:kL < n) (h2:kD < n) (h3:kB < n) (h4:kC < n):Fs.lt n (Zi txt kL kD i sg ln ll kB kC):=by
 simp [Fs.lt,Zi,V.lt,h1,h2,h3,h4]
theorem ZdJ (h:LC τ kX kB kL) {n j:Nat} {v:V} (hj:ρ[j]? = some (some (.ref kX))) (hn:n ∈ [9,18,19,14,20,21,22,23,24,25,26,27]) (hv:Zbw n F = some v) (hx:∀ x,v ≠ .ext x):TE sc d (.attr (.loc j) n) ρ (LX τ kX kB F acc) v (LX τ kX kB F acc) :=
 TE.attr (TE.loc hj) (ZA (.tail _ (.tail _ (.tail _ (.tail _ (.head _))))) hn h.X hv hx)
theorem ZoD (h:LC τ kX kB kL) {n:Nat} {v:V} (hj:ρ[0]? = some (some (.ref kX))) (hn:n ∈ [9,18,19,14,20,21,22,23,24,25,26,27]) (hl:F.length ≤ 100):TA sc d (.attr 0 n) v ρ (LX τ kX kB F acc) ρ (LX τ kX kB (ZC n v F) acc):=by
 have:=TA.attr (sc:=sc) (d:=d) (v:=v) hj (h.X (F:=F) (acc:=acc)) (.tail _ (.tail _ (.tail _ (.tail _ (.head _))))) hn hl
 rwa [h.setX] at this
theorem ZoE (h:LC τ kX kB kL) (hz:txt.length ≤ 100000) (hF:∀ i sg,Fs.lt τ.length (Zi txt kL kD i sg ln ll kB kC)):OpV 1 (Fn (.ref 518)) [.ref kX] (LX τ kX kB (Zi txt kL kD i sg ln ll kB kC) acc) .none (LX τ kX kB (Zi txt kL kD (i + 1) (Z1 txt (i + 1)) ln ll kB kC) acc):=by
 refine Zdt (k:=0) (g:=[]) (o:=.next [some (.ref kX)]) Zci rfl rfl (hF _ _) ?_ rfl (by simp [V.lt])
 rw [List.append_nil]
 have t1:TS (Zb 89 (some 6)) 0 (.auga 0 21 .Add (.cst (.int (1)))) [some (.ref kX)] (LX τ kX kB (Zi txt kL kD i sg ln ll kB kC) acc) (.next [some (.ref kX)]) (LX τ kX kB (Zi txt kL kD (i + 1) sg ln ll kB kC) acc):=by
  have:=TS.auga (sc:=Zb 89 (some 6)) (d:=0) (ρ:=[some (.ref kX)]) (i:=0) (n:=21) (e:=.cst (.int 1)) (op:=.Add) (r:=.int ((i + 1:Nat):Int)) rfl (ZA (.tail _ (.tail _ (.tail _ (.tail _ (.head _))))) (by decide) (h.X (F:=Zi txt kL kD i sg ln ll kB kC) (acc:=acc)) rfl (by simp)) TE.int (OpV.eqv (Zh2 (a:=i) (b:=1)) (by simp)) h.X (.tail _ (.tail _ (.tail _ (.tail _ (.head _))))) (by decide) (by simp [Zi])
  rwa [h.setX] at this
 have ga:∀ {n:Nat} {v:V},n ∈ [9,18,19,14,20,21,22,23,24,25,26,27] → Zbw n (Zi txt kL kD (i + 1) sg ln ll kB kC) = some v → (∀ x,v ≠ .ext x) → TE (Zb 89 (some 6)) 0 (.attr (.loc 0) n) [some (.ref kX)] (LX τ kX kB (Zi txt kL kD (i + 1) sg ln ll kB kC) acc) v (LX τ kX kB (Zi txt kL kD (i + 1) sg ln ll kB kC) acc):=fun h1 h2 h3 => ZdJ h rfl h1 h2 h3
 have g9:=ga (n:=9) (by decide) rfl (by simp)
 have g21:=ga (n:=21) (by decide) rfl (by simp)
 have tc:TB (Zb 89 (some 6)) 0 (.cmp (.attr (.loc 0) 21) [.Lt] [(.call 75 [(.attr (.loc 0) 9)])]) [some (.ref kX)] (LX τ kX kB (Zi txt kL kD (i + 1) sg ln ll kB kC) acc) (decide (((i + 1:Nat):Int) < txt.length)) (LX τ kX kB (Zi txt kL kD (i + 1) sg ln ll kB kC) acc) :=
  TB.cmp g21 (TE.blt (j:=1) rfl rfl rfl (TEs.one g9) (ZdD (by omega))) Zbs
 have t2:TE (Zb 89 (some 6)) 0 (.ite (.cmp (.attr (.loc 0) 21) [.Lt] [(.call 75 [(.attr (.loc 0) 9)])]) (.sub (.attr (.loc 0) 9) (.attr (.loc 0) 21)) (.glob 49)) [some (.ref kX)] (LX τ kX kB (Zi txt kL kD (i + 1) sg ln ll kB kC) acc) (.int (Z1 txt (i + 1))) (LX τ kX kB (Zi txt kL kD (i + 1) sg ln ll kB kC) acc):=by
  unfold Z1
  by_cases hl:i + 1 < txt.length
  ·rw [if_pos hl]
   rw [decide_eq_true (by omega)] at tc
   exact TE.ite_t tc (TE.sub g9 g21 (ZaP (by omega) (by omega) (by omega)))
  ·rw [if_neg hl]
   rw [decide_eq_false (by omega)] at tc
   exact TE.ite_f tc (TE.glob rfl)
 exact TSs.cons t1 (TSs.cons (TS.assign t2 (ZoD h rfl (by decide) (by simp [Zi]))) TSs.nil)
end
theorem VR.re {ι:Ix} {P P':Z2} (hp:∀ b o,P b = some o → ¬ ZN o → P' b = some o) {v:V} {x:Value} (h:VR ι P v x):VR ι P' v x:=h.imp (fun _ _ _ _ h => hp _ _ h fun q => q) fun _ _ _ e => e
theorem VRs.re {ι:Ix} {P P':Z2} (hp:∀ b o,P b = some o → ¬ ZN o → P' b = some o) {v:List V} {x:List Value} (h:VRs ι P v x):VRs ι P' v x:=h.imp (fun _ _ _ _ h => hp _ _ h fun q => q) fun _ _ _ e => e
theorem FRs.re {ι:Ix} {P P':Z2} (hp:∀ b o,P b = some o → ¬ ZN o → P' b = some o) {fs:List (Nat × V)} {es:List DictEntry} (h:FRs ι P fs es):FRs ι P' fs es:=h.imp (fun _ _ _ _ h => hp _ _ h fun q => q) fun _ _ _ e => e
theorem AOR.re {ι:Ix} {P P':Z2} (hp:∀ b o,P b = some o → ¬ ZN o → P' b = some o) {h:Heap} {ao:AO} {x y:Addr} (r:AOR ι P h ao x y):AOR ι P' h ao x y:=by
 cases ao with
 | list vs => obtain ⟨e1,items,n,e2,e3⟩:=r;exact ⟨e1,items,n,e2,e3.re hp⟩
 | barr ks => exact r
 | inst C fs => obtain ⟨e1,es,n,e2,e3⟩:=r;exact ⟨e1,es,n,e2,e3.re hp⟩
 | dictB => exact r
 | rng => exact r
theorem St.swap {h₀:Heap} {L:Addr} {N:List Str} {ρ:List (Option V)} {ι:Ix} {P:Z2} {σ:List AO} {h:Heap} (S:St h₀ L N ρ ι P σ h) {h':Heap} {X:Addr → Prop} {P':Z2}
  (hX:∀ b,X b → h₀.get? b = none ∧ b ≠ L ∧ (∀ o,P b = some o → ZN o) ∧ ∀ (k:Nat) (x y:Addr),ι[k]? = some (x,y) → b ≠ x ∧ b ≠ y)
  (same:∀ b,¬ X b → P' b = P b) (new:∀ b o,X b → P' b = some o → h'.get? b = some o) (keep:∀ b o,¬ X b → h.get? b = some o → h'.get? b = some o):St h₀ L N ρ ι P' σ h':=by
 classical
 have hp:∀ b o,P b = some o → ¬ ZN o → P' b = some o:=fun b o e hn => by
  rw [same b fun q => hn ((hX b q).2.2.1 o e)];exact e
 have hL:¬ X L:=fun q => (hX L q).2.1 rfl
 have hι:∀ {k:Nat} {x y:Addr},ι[k]? = some (x,y) → ¬ X x ∧ ¬ X y:=fun {k x y} e => ⟨fun q => ((hX x q).2.2.2 k x y e).1 rfl,fun q => ((hX y q).2.2.2 k x y e).2 rfl⟩
 obtain ⟨m,hm,hv⟩:=S.ns
 refine ⟨fun b o e => ?_,fun b o e => ?_,⟨m,?_,fun i n v e1 e2 => ?_⟩,S.len,fun k ao x y e1 e2 => ?_,?_,fun k x y e => ?_,S.sep.apart⟩
 ·rw [same b fun q => by rw [(hX b q).1] at e;cases e];exact S.base b o e
 ·by_cases q:X b
  ·exact new b o q e
  ·rw [same b q] at e;exact keep b o q (S.keep b o e)
 ·obtain ⟨oL,es,ep,hL',r⟩:=hm
  exact ⟨oL,es,ep,keep _ _ hL hL',r⟩
 ·obtain ⟨z,hz,hr⟩:=hv i n v e1 e2
  exact ⟨z,hz,hr.re hp⟩
 ·obtain ⟨z1,z2⟩:=hι e2
  exact ((S.objs k ao x y e1 e2).re hp).same (List.prefix_refl _) (.refl _) (fun o e => keep _ _ z1 e) fun o e => keep _ _ z2 e
 ·rw [same L hL];exact S.sep.PL
 ·obtain ⟨z1,z2⟩:=hι e
  obtain ⟨q1,q2,q3,q4⟩:=S.sep.off k x y e
  exact ⟨by rw [same x z1];exact q1,by rw [same y z2];exact q2,q3,q4⟩
theorem ZdX {prog:Program} {w:World} {A:Around} {R:Result → Shared → Prop} {s:Shared} {target it body orelse env} (I:Nat → Shared → Prop)
  (turn:∀ n s,I n s → wpAny (model prog w) A (pyNext it) (fun r s₁ => match r with
   | none => wpAny (model prog w) A (execs orelse env) (fun f s₃ => R (.ok f) s₃) (notedBy (model prog w) A env fun e s' => R (.error e) s') s₁
   | some v => wpAny (model prog w) A (letOwnedTupleGo target it v) (fun _ s₁' => wpAny (model prog w) A (assign target env v) (fun _ s₂ => wpAny (model prog w) A (execs body env) (fun f s₃ => match f with
     | .next | .cont => ∃ m,m < n ∧ I m s₃
     | .brk => R (.ok .next) s₃
     | .ret v => R (.ok (.ret v)) s₃) (notedBy (model prog w) A env fun e s' => R (.error e) s') s₂) (notedBy (model prog w) A env fun e s' => R (.error e) s') s₁') (notedBy (model prog w) A env fun e s' => R (.error e) s') s₁) (notedBy (model prog w) A env fun e s' => R (.error e) s') s)
  (n:Nat) (h:I n s):codeAny (model prog w) A (.forLoop target it body orelse env) R s:=by
 refine ZbK rfl (Around.under_of_weight rfl) rfl I (fun n s hI => ?_) n s h
 show wpAny _ _ ((forTurn target it body orelse env).onRaise (fun x => do noteFrame x env;theTreesLotGoes x)) _ _ s
 refine Zbr ?_
 simp only [forTurn]
 refine wpAny_bind (wpAny_standAt (wpAny_bind (Zaj (wpAny_mono (turn n s hI) (fun r s₁ h₁ => ?_) fun _ _ h' => wpAny_standAt h'))))
 cases r with
 | none => exact wpAny_pure (.inr ⟨rfl,Zd0 h₁⟩)
 | some v =>
  refine wpAny_bind (wpAny_mono h₁ (fun _ s₁' h₁' => ?_) fun _ _ h' => h')
  refine wpAny_bind (wpAny_mono h₁' (fun _ s₂ h₂ => wpAny_bind (wpAny_mono h₂ (fun f s₃ h₃ => ?_) fun _ _ h' => h')) fun _ _ h' => h')
  cases f with
  | next => exact wpAny_pure (.inl ⟨rfl,h₃⟩)
  | cont => exact wpAny_pure (.inl ⟨rfl,h₃⟩)
  | brk => exact wpAny_pure h₃
  | ret v => exact wpAny_pure h₃
noncomputable def fz (P:Z2) (a e i:Addr) (x y z:Option Obj):Z2:=fun b => if b = a then x else if b = e then y else if b = i then z else P b
section
variable {P:Z2} {a e i b:Addr} {x y z:Option Obj}
theorem fz_a:fz P a e i x y z a = x:=if_pos rfl
theorem ZlD (h:e ≠ a):fz P a e i x y z e = y:=by unfold fz;rw [if_neg h,if_pos rfl]
theorem ZlE (h:i ≠ a) (h':i ≠ e):fz P a e i x y z i = z:=by unfold fz;rw [if_neg h,if_neg h',if_pos rfl]
theorem Zir (h:b ≠ a) (h':b ≠ e) (h'':b ≠ i):fz P a e i x y z b = P b:=by unfold fz;rw [if_neg h,if_neg h',if_neg h'']
theorem ZrU {P₀:Z2} (hp:FrzLe P₀ P) (ha:P₀ a = none) (he:P₀ e = none) (hi:P₀ i = none):FrzLe P₀ (fz P a e i x y z):=fun b o q => by
 rw [Zir (fun w => by rw [w,ha] at q;cases q) (fun w => by rw [w,he] at q;cases q) (fun w => by rw [w,hi] at q;cases q)]
 exact hp b o q
end
theorem St.fz {h₀:Heap} {L:Addr} {N:List Str} {ρ:List (Option V)} {ι:List (Addr × Addr)} {P:Z2} {σ:List AO} {h:Heap} (S:St h₀ L N ρ ι P σ h) {h':Heap} {a e i:Addr} {x y z:Option Obj}
  (h0:h₀.get? a = none ∧ h₀.get? e = none ∧ h₀.get? i = none) (hL:a ≠ L ∧ e ≠ L ∧ i ≠ L) (hea:e ≠ a) (hia:i ≠ a) (hie:i ≠ e) (hP:∀ b,b = a ∨ b = e ∨ b = i → ∀ o,P b = some o → ZN o)
  (hι:∀ b,b = a ∨ b = e ∨ b = i → ∀ (k:Nat) (x y:Addr),ι[k]? = some (x,y) → b ≠ x ∧ b ≠ y)
  (hx:∀ o,x = some o → h'.get? a = some o) (hy:∀ o,y = some o → h'.get? e = some o) (hz:∀ o,z = some o → h'.get? i = some o) (keep:∀ b o,b ≠ a → b ≠ e → b ≠ i → h.get? b = some o → h'.get? b = some o) :
  St h₀ L N ρ ι (fz P a e i x y z) σ h':=by
 refine S.swap (X:=fun b => b = a ∨ b = e ∨ b = i) (fun b q => ⟨?_,?_,hP b q,hι b q⟩) (fun b q => ?_) (fun b o q w => ?_) fun b o q w => ?_
 ·rcases q with rfl | rfl | rfl
  ·exact h0.1
  ·exact h0.2.1
  ·exact h0.2.2
 ·rcases q with rfl | rfl | rfl
  ·exact hL.1
  ·exact hL.2.1
  ·exact hL.2.2
 ·exact Zir (fun w => q (.inl w)) (fun w => q (.inr (.inl w))) fun w => q (.inr (.inr w))
 ·rcases q with rfl | rfl | rfl
  ·rw [fz_a] at w;exact hx o w
  ·rw [ZlD hea] at w;exact hy o w
  ·rw [ZlE hia hie] at w;exact hz o w
 ·exact keep b o (fun w => q (.inl w)) (fun w => q (.inr (.inl w))) (fun w => q (.inr (.inr w))) w
noncomputable def Zq7:V → Bool
 | .bytes _ => true
 | _ => false
noncomputable def DictB (w:World) (h:Heap) (a:Addr) (n:Nat):Prop:=∃ (kvs:List (List UInt8 × Value)),h.DictOf (bytesKind pw w) a kvs ∧ kvs.length ≤ n
theorem DictB.obj {w:World} {h:Heap} {a:Addr} {n:Nat} (x:DictB w h a n):∃ es m,h.get? a = some (dictOf es m):=by
 obtain ⟨kvs,⟨o,es,ep,ho,⟨c1,c2,c3⟩,hd,_⟩,_⟩:=x
 obtain ⟨c,dc,dt,sl⟩:=o
 dsimp only at c1 c2 c3 hd
 subst c1 c2 c3 hd
 exact ⟨es.toList,ep,ho⟩
theorem Zkf {x:Value} {ι P} {ks:List Int} (r:VR ι P (.bytes ks) x):∃ (k:List UInt8),isBytes k x = true:=by
 obtain ⟨b,t,rfl,_⟩:=r.bytes'
 exact ⟨b.toList,by simp [isBytes]⟩
theorem DictB.set {w:World} {A:Around} {E:Value → Shared → Prop} {s:Shared} {a:Addr} {n:Nat} {key v:Value} {k:List UInt8} {Q:Unit → Shared → Prop} (x:DictB w s.heap a n) (hk:isBytes k key = true) (hn:n ≤ 1000)
  (h:∀ h',DictB w h' a (n + 1) → Heap.SameBut a s.heap h' → Q () { s with heap:=h',toks:=s.toks + 1 }):wpAny (model pw w) A (setItem (.ref a) key v) Q E s:=by
 obtain ⟨kvs,hd,hl⟩:=x
 refine up (wpAny_setItem_pairs (knd:=bytesKind pw w) hk hd (fun h' hd' hs => h h' ⟨_,hd',?_⟩ hs) ?_)
 ·have:=stored_length_le kvs k v
  omega
 ·rw [sizeLine_eq];omega
theorem DictB.at {w:World} {h h':Heap} {a:Addr} {n:Nat} (x:DictB w h a n) (k:∀ o,h.get? a = some o → h'.get? a = some o):DictB w h' a n:=by
 obtain ⟨kvs,⟨o,es,ep,ho,r⟩,hl⟩:=x
 exact ⟨kvs,⟨o,es,ep,k o ho,r⟩,hl⟩
noncomputable def RSV:List V:=match (GV[39]?:Option V) with
 | some (.flst vs) => vs
 | _ => []
theorem ZoF:RSV.all Zq7 = true:=by decide
theorem Zqd {i:Nat} (h:i < RSV.length):∃ ks,RSV[i]? = some (.bytes ks):=by
 have:=List.all_eq_true.mp ZoF RSV[i] (List.getElem_mem h)
 rw [List.getElem?_eq_getElem h]
 generalize RSV[i] = v at *
 cases v <;> first | exact ⟨_,rfl⟩ | cases this
theorem neS {a I:Nat} (h:a < I):I + 1 ≠ a:=by omega
theorem neI {a I:Nat} (h:a < I):I ≠ a:=by omega
theorem ZrB (I:Nat):I ≠ I + 1:=by omega
theorem ZlF {I J:Nat} (h:I ≤ J) (h':J < I):False:=by omega
theorem Zjb {I J x:Nat} (h:I ≤ J) (h':x < I):J ≠ x:=by omega
inductive KindsInv (w:World) (h₀:Heap) (L:Addr) (sc:Scope) (σ:List AO) (s:Shared) (ι₁:Ix) (P₁:Z2) (a I l:Addr) (items:Array Value) (n:Nat) (nn:Nat) (s':Shared):Prop
 | mk (i:Nat) (x y:Option V) (ι':Ix) (P':Z2) (h':Heap) (tk:Nat) (old:Value) (hs:s' = { s with heap:=h',toks:=tk }) (hn:nn = 21 - i) (hi:i ≤ 21) (i':ι₁ <+: ι') (p':FrzLe (fz P₁ a (I + 1) I none none none) P')
  (S:St h₀ L (Zs sc) [some (.ext (.ref a)),x,y] ι' P' σ h') (ea:P' a = h'.get? a) (ee:P' (I + 1) = h'.get? (I + 1)) (ei:P' I = h'.get? I) (hD:DictB w h' a i) (hE:IsEnum h' (I + 1) I (i:Int) old) (hI:h'.IsListIter I l i) (hl:P' l = some { cls:=.type "list",data:=.seq items n })
section
variable {P Q:Z2} {a e i:Addr} {x y z:Option Obj}
theorem Znd (h:∀ b o,b ≠ a → b ≠ e → b ≠ i → P b = some o → Q b = some o) (e1:e ≠ a) (e2:i ≠ a) (e3:i ≠ e):FrzLe (fz P a e i none none none) (fz Q a e i x y z):=fun b o q => by
 by_cases hb:b = a
 ·rw [hb,fz_a] at q;cases q
 ·by_cases hb1:b = e
  ·rw [hb1,ZlD e1] at q;cases q
  ·by_cases hb2:b = i
   ·rw [hb2,ZlE e2 e3] at q;cases q
   ·rw [Zir hb hb1 hb2] at q ⊢;exact h b o hb hb1 hb2 q
theorem Zpy (p:FrzLe (fz P a e i none none none) Q) (e1:e ≠ a) (e2:i ≠ a) (e3:i ≠ e):FrzLe (fz P a e i none none none) (fz Q a e i x y z):=Znd (fun b o n1 n2 n3 q => p b o ((Zir n1 n2 n3).trans q)) e1 e2 e3
theorem Zqe {P₁:Z2} (p₁:FrzLe P P₁) (p':FrzLe (fz P₁ a e i none none none) Q) (he:P₁ e = none) (hi:P₁ i = none):FrzLe (fun b => if b = a then none else P b) (fz Q a e i none none none):=fun b o q => by
 by_cases hb:b = a
 ·dsimp only at q;rw [if_pos hb] at q;cases q
 ·dsimp only at q
  rw [if_neg hb] at q
  have q1:=p₁ _ _ q
  have b1:=Zr q1 he
  have b2:=Zr q1 hi
  rw [Zir hb b1 b2]
  exact p' _ _ ((Zir hb b1 b2).trans q1)
theorem Zpz {w:World} {h:Heap} {I l n k:Nat} {c:Int} {old:Value} (ea:∀ o,h.get? a = some o → P a = some o) (ee:∀ o,h.get? (I + 1) = some o → P (I + 1) = some o) (ei:∀ o,h.get? I = some o → P I = some o)
  (hD:DictB w h a n) (hE:IsEnum h (I + 1) I c old) (hI:h.IsListIter I l k) (b:Addr) (hb:b = a ∨ b = I + 1 ∨ b = I):∃ o,P b = some o ∧ ZN o:=by
 rcases hb with rfl | rfl | rfl
 ·obtain ⟨es,m,hd'⟩:=hD.obj
  exact ⟨_,ea _ hd',trivial⟩
 ·exact ⟨_,ee _ hE,trivial⟩
 ·obtain ⟨o',ho',hc,hdt⟩:=hI
  exact ⟨o',ei _ ho',by unfold ZN;rw [hdt];trivial⟩
theorem Zjc {X:Addr → Prop} (h:∀ b,X b → ∃ o,P b = some o ∧ ZN o) (b:Addr) (hb:X b) (o:Obj) (ho:P b = some o):ZN o:=by
 obtain ⟨o',h1,h2⟩:=h b hb
 rw [h1] at ho
 cases ho
 exact h2
theorem ZhJ {ι:Ix} {L:Addr} {X:Addr → Prop} (S:Sep ι P L) (h:∀ b,X b → ∃ o,P b = some o ∧ ZN o) (b:Addr) (hb:X b) (k:Nat) (x y:Addr) (e:ι[k]? = some (x,y)):b ≠ x ∧ b ≠ y:=by
 obtain ⟨o,ho,_⟩:=h b hb
 obtain ⟨z1,z2,_⟩:=S.off k x y e
 exact ⟨Zr ho z1,Zr ho z2⟩
end
set_option maxHeartbeats 1000000 in
theorem Zkg {w:World} {h₀:Heap} {A:Around} {env:Env} {sc:Scope} {d:Nat} {pe:Stmt} {ι:Ix} {P:Z2} {σ:List AO} {s:Shared} {a:Addr} {E:Value → Shared → Prop} {Q:Flow → Shared → Prop} (F:Fx w h₀ A env sc d)
  (C:CS sc pe (.for (.tup [(.loc 1),(.loc 2)]) (.call 84 [(.glob 39)]) [(.assign (.sub (.loc 0) (.loc 2)) (.bin .Add (.glob 40) (.loc 1)))]))
  (S:St h₀ env.locals (Zs sc) [some (.ext (.ref a)),none,none] ι P σ s.heap) (hd:DictB w s.heap a 0) (hP:P a = s.heap.get? a) (h0:h₀.get? a = none)
  (kk:∀ ρ' ι' P' h' tk,ι <+: ι' → FrzLe (fun b => if b = a then none else P b) P' → P' a = none → (ρ'[0]? = some (some (.ext (.ref a)))) → St h₀ env.locals (Zs sc) ρ' ι' P' σ h' → a ≠ env.locals → (∀ (i:Nat) (x y:Addr),ι'[i]? = some (x,y) → a ≠ x ∧ a ≠ y) → DictB w h' a 21 → Q .next { s with heap:=h',toks:=tk }) :
  wpAny (model pw w) A (exec pe env) Q E s:=by
 obtain ⟨_,_,_,_,rfl,ct,ce,cb⟩:=C
 refine Zhu ?_ (ZdG ce)
 obtain ⟨_,_,_,_,rfl,c1,c2,c3,c4,c5⟩:=ce
 rename_i n' _ _ _
 have en:n' = Str.ofString "enumerate":=by
  have:(GN ++ BN)[84]? = some (Str.ofString "enumerate"):=rfl
  rw [this] at c1;exact (Option.some.inj c1).symm
 subst en
 refine ZaO rfl (wpAny_Name (ZeF (bv:=.type "enumerate") F S (by decide) c2 rfl ?_) c3)
 refine ZL (h:=h₀) c4 c5 (Ze9 rfl) (.inr rfl) (TEs.cons (TE.glob rfl) TEs.nil w h₀ A env _ ι P s E _ F c4 S _ ?_)
 intro ι₁ P₁ g₁ t₁ i₁ p₁ S₁ xs hxs
 refine ⟨S₁.keep0,?_⟩
 obtain ⟨x,rfl,hx⟩:=hxs.inv1
 obtain ⟨l,items,n,rfl,hl,hws⟩:=hx.flst'
 ·have hl':=S₁.keep _ _ hl
  show wpAny _ _ (call (.type "enumerate") [.ref l]) _ _ _
  refine up (call_enumerate_1 (s:={ s with heap:=g₁,toks:=t₁ }) hl' fun g₂ he hit hz hk => ?_)
  refine up (wpAny_pyIter_enum (s:={ s with heap:=g₂,toks:=t₁ }) he ?_)
  have hsz:items.size = 21:=by
   have:=hws.length
   rw [Array.length_toList] at this
   exact this.symm
  obtain ⟨es₀,m₀,hda⟩:=hd.obj
  have hPa:P₁ a = some (dictOf es₀ m₀):=p₁ _ _ (hP.trans hda)
  have hga:g₁.get? a = some (dictOf es₀ m₀):=S₁.keep _ _ hPa
  have hlt:a < g₁.objs.size:=Heap.lt_size hga
  have hlL:=Heap.lt_size hl'
  have aL:a ≠ env.locals:=fun q => by rw [q,S₁.sep.PL] at hPa;cases hPa
  have LL:=S₁.ltL
  obtain ⟨I,eI⟩:∃ I,I = g₁.objs.size:=⟨_,rfl⟩
  have heI:(g₁.objs.size + 1) = I + 1:=by rw [eI]
  replace he:IsEnum g₂ (I + 1) I 0 .none:=by rw [eI];exact he
  have hlt':a < I:=by rw [eI];exact hlt
  have LL':env.locals < I:=by rw [eI];exact LL
  have hlL':l < I:=by rw [eI];exact hlL
  replace hit:g₂.IsListIter I l 0:=by rw [eI];exact hit
  show codeAny _ _ (.forLoop _ (.ref (g₁.objs.size + 1)) _ _ _) _ _
  rw [heI]
  have nI:∀ J,I ≤ J → P₁ J = none ∧ h₀.get? J = none:=fun J hJ => by
   have e:g₁.get? J = none:=by
    cases q:g₁.get? J with
    | none => rfl
    | some o => exact (ZlF hJ (by rw [eI];exact Heap.lt_size q)).elim
   constructor
   ·cases q:P₁ J with
    | none => rfl
    | some o => have:=S₁.keep _ _ q;rw [e] at this;cases this
   ·cases q:h₀.get? J with
    | none => rfl
    | some o => have:=S₁.keep0 _ _ q;rw [e] at this;cases this
  have sI:∀ J,I ≤ J → ∀ (k:Nat) (x y:Addr),ι₁[k]? = some (x,y) → J ≠ x ∧ J ≠ y:=fun J hJ k x y e => by
   obtain ⟨q1,q2⟩:=S₁.freshI e
   exact ⟨Zjb hJ (by rw [eI];exact q1),Zjb hJ (by rw [eI];exact q2)⟩
  have e1:I + 1 ≠ a:=neS hlt'
  have e2:I ≠ a:=neI hlt'
  have e3:I ≠ I + 1:=ZrB I
  have e4:l ≠ a:=fun q => by rw [q] at hl';rw [hl'] at hga;cases (congrArg Obj.data (Option.some.inj hga))
  have e5:(I:Nat) ≤ I + 1:=Nat.le_succ I
  have S₂:St h₀ env.locals (Zs sc) [some (.ext (.ref a)),none,none] ι₁ (fz P₁ a (I + 1) I (g₂.get? a) (g₂.get? (I + 1)) (g₂.get? I)) σ g₂:=by
   refine S₁.fz ⟨h0,(nI _ e5).2,(nI _ (Nat.le_refl _)).2⟩ ⟨aL,neS LL',neI LL'⟩ e1 e2 e3 (fun b hb o ho => ?_) (fun b hb k x y e => ?_) (fun _ e => e) (fun _ e => e) (fun _ e => e) fun b o _ _ _ e => hk b o e
   ·rcases hb with q | q | q
    ·rw [q,hPa] at ho;cases ho;trivial
    ·rw [q,(nI _ e5).1] at ho;cases ho
    ·rw [q,(nI _ (Nat.le_refl _)).1] at ho;cases ho
   ·rcases hb with q | q | q
    ·rw [q]
     obtain ⟨z1,z2,_⟩:=S₁.sep.off k x y e
     exact ⟨(by first | exact Zr hPa z1 | exact (Zr z1 hPa).symm | exact fun q => by rw [q,z1] at hPa;cases hPa),(by first | exact Zr hPa z2 | exact (Zr z2 hPa).symm | exact fun q => by rw [q,z2] at hPa;cases hPa)⟩
    ·rw [q];exact sI _ e5 k x y e
    ·rw [q];exact sI _ (Nat.le_refl _) k x y e
  refine ZdX (KindsInv w h₀ env.locals sc σ s ι₁ P₁ a I l items n) ?_ 21
   ⟨0,none,none,ι₁,_,g₂,t₁,.none,rfl,rfl,Nat.zero_le _,List.prefix_refl _,?_,S₂,fz_a,ZlD e1,ZlE e2 e3,(hd.at fun o o_e => ?_),he,hit,?_⟩
  ·rintro n' s' ⟨i,x,y,ι',P',h',tk,old,rfl,rfl,hi,i',p',S',ea,ee,ei,hD,hE,hI,hPl⟩
   have hl2:=S'.keep _ _ hPl
   have thr:=Zpz (P:=P') (fun o q => ea.trans q) (fun o q => ee.trans q) (fun o q => ei.trans q) hD hE hI
   have notseq:=Zjc thr
   have sepX:=ZhJ S'.sep thr
   have h00:h₀.get? a = none ∧ h₀.get? (I + 1) = none ∧ h₀.get? I = none:=⟨h0,(nI _ e5).2,(nI _ (Nat.le_refl _)).2⟩
   have hLL:a ≠ env.locals ∧ I + 1 ≠ env.locals ∧ I ≠ env.locals:=⟨aL,neS LL',neI LL'⟩
   have e6:l ≠ I + 1:=(neS hlL').symm
   have e7:l ≠ I:=(neI hlL').symm
   have leP:=Zqe p₁ p' (nI _ e5).1 (nI _ (Nat.le_refl _)).1
   cases hv:items[i]? with
   | none =>
    have hi':i = 21:=by
     have:=Array.getElem?_eq_none_iff.mp hv
     omega
    subst hi'
    refine up (wpAny_pyNext_enum_end F.hand hE hI (Zq hl2) hv fun h₃ he₃ => ?_)
    replace he₃:Heap.ExtBut I h' h₃:=he₃
    refine wpAny_execs_nil (kk [some (.ext (.ref a)),x,y] ι' (fz P' a (I + 1) I none none none) h₃ tk (i₁.trans i') leP fz_a rfl ?_ aL (sepX a (.inl rfl)) (hD.at fun o e => he₃ _ _ (Ne.symm e2) e))
    exact S'.fz h00 hLL e1 e2 e3 notseq sepX (fun _ e => by cases e) (fun _ e => by cases e) (fun _ e => by cases e) fun b o _ _ q e => he₃ b o q e
   | some v =>
    obtain ⟨ks,hks⟩:∃ ks,RSV[i]? = some (.bytes ks):=by
     have hlt2:i < RSV.length:=by
      have:=(Array.getElem?_eq_some_iff.mp hv).1
      show i < 21
      omega
     exact Zqd hlt2
    obtain ⟨v',hv',hvr⟩:=hws.get (i:=i) hks
    rw [Array.getElem?_toList,hv] at hv'
    cases hv'
    have hi2:i < 21:=by
     have:=(Array.getElem?_eq_some_iff.mp hv).1
     omega
    obtain ⟨_,_,_,rfl,ct⟩:=ct
    refine up (wpAny_pyNext_enum_item (s:={ s with heap:=h',toks:=tk }) hE hI (Zq hl2) hv (Ne.symm e3) fun h₃ heo hit₃ ht₃ hz₃ hk₃ => ?_)
    replace hk₃:∀ b o,b ≠ I + 1 → b ≠ I → h'.get? b = some o → h₃.get? b = some o:=hk₃
    replace ht₃:h₃.get? h'.objs.size = some { cls:=.type "tuple",data:=.seq #[.int i tk,v] }:=ht₃
    refine up (wpAny_letOwnedTupleGo_enum (s:={ s with heap:=h₃,toks:=tk + 1 }) heo fun h₄ he₄ hs₄ => ?_)
    replace hs₄:Heap.SameBut (I + 1) h₃ h₄:=hs₄
    have hsz':h'.objs.size ≠ I + 1:=fun q => by
     have:=Heap.lt_size (show h'.get? (I + 1) = _ from hE)
     rw [q] at this;exact Nat.lt_irrefl _ this
    have ht₄:h₄.IsTuple h'.objs.size #[.int i tk,v]:=⟨_,(hs₄.2 _ hsz').trans ht₃,rfl,_,rfl⟩
    obtain ⟨n1,n2⟩:=ct.noStar (env:=env)
    refine ZbV (s:={ s with heap:=h₄,toks:=tk + 1 }) F.hand ht₄ n1 n2 fun h₅ hx₅ => ?_
    have hz₄:h₄.objs.size = h'.objs.size + 1:=hs₄.1.trans hz₃
    have nz:∀ b,b < h'.objs.size → b ≠ h₄.objs.size:=fun b q => Nat.ne_of_lt (hz₄ ▸ Nat.lt_succ_of_lt q)
    have s5:∀ b o,b < h'.objs.size → h₄.get? b = some o → h₅.get? b = some o:=fun b o q e => hx₅ b o (nz b q) e
    have k₅:∀ b o,b ≠ a → b ≠ I + 1 → b ≠ I → h'.get? b = some o → h₅.get? b = some o:=fun b o _ q1 q2 e => s5 b o (Heap.lt_size e) ((hs₄.2 _ q1).trans (hk₃ b o q1 q2 e))
    have la:a < h'.objs.size:=by obtain ⟨es,m,q⟩:=hD.obj;exact Heap.lt_size q
    have lI:I < h'.objs.size:=by obtain ⟨o',ho',_⟩:=hI;exact Heap.lt_size ho'
    have lI1:I + 1 < h'.objs.size:=Heap.lt_size (show h'.get? (I + 1) = _ from hE)
    have S₅:St h₀ env.locals (Zs sc) [some (.ext (.ref a)),x,y] ι' (fz P' a (I + 1) I (h₅.get? a) (h₅.get? (I + 1)) (h₅.get? I)) σ h₅ :=
     S'.fz h00 hLL e1 e2 e3 notseq sepX (fun _ e => e) (fun _ e => e) (fun _ e => e) k₅
    have D₅:DictB w h₅ a i:=hD.at fun o e => s5 a o la ((hs₄.2 _ (Ne.symm e1)).trans (hk₃ _ _ (Ne.symm e1) (Ne.symm e2) e))
    have E₅:IsEnum h₅ (I + 1) I ((i:Int) + 1) v:=s5 _ _ lI1 he₄
    have I₅:h₅.IsListIter I l (i + 1):=by
     obtain ⟨o',ho',r⟩:=hit₃
     exact ⟨o',s5 _ _ lI ((hs₄.2 _ e3).trans ho'),r⟩
    have L₅:fz P' a (I + 1) I (h₅.get? a) (h₅.get? (I + 1)) (h₅.get? I) l = some { cls:=.type "list",data:=.seq items n }:=by rw [Zir e4 e6 e7];exact hPl
    have le₅:FrzLe (fz P₁ a (I + 1) I none none none) (fz P' a (I + 1) I (h₅.get? a) (h₅.get? (I + 1)) (h₅.get? I)):=Zpy p' e1 e2 e3
    refine TAs.cons (TA.loc (v:=.int i)) (TAs.cons (TA.loc (v:=.bytes ks)) TAs.nil) w h₀ A env _ ι' _ { s with heap:=h₅,toks:=tk + 1 } (notedBy (model pw w) A env fun e s' => cameBackBy (model pw w) A env E e s') [.int i tk,v] F ct S₅
     (.cons .int (.cons (by obtain ⟨_,_,rfl,hb⟩:=hvr.bytes';exact .bytes hb) .nil)) _ ?_
    intro ι₆ P₆ h₆ t₆ i₆ p₆ S₆
    obtain ⟨_,_,rfl,cb,cb'⟩:=cb
    ·cases cb'
     obtain ⟨_,_,_,rfl,ct2,ce2⟩:=cb
     ·refine wpAny_execs_cons (Zv (TE.bin (TE.glob rfl) (TE.loc rfl) (ZK (a:=257) (b:=(i:Int))) w h₀ A env _ ι₆ P₆ { s with heap:=h₆,toks:=t₆ } _ F ce2 S₆ _ ?_) (Zh7 ce2 rfl) (ZeB ce2 ct2 rfl))
      intro ι₇ P₇ h₇ t₇ i₇ p₇ S₇ x₇ hx₇
      rw [ZH ct2]
      obtain ⟨o,ii,pp,rfl,co,ci⟩:=ct2
      ·show wpAny _ _ (assign (.Subscript o ii pp) env x₇) _ _ _
       rw [arm_assign_Subscript]
       refine wpAny_bind (wpAny_holding (TE.loc rfl w h₀ A env _ ι₇ P₇ { s with heap:=h₇,toks:=t₇ } _ F co S₇ _ ?_))
       intro ι₈ P₈ h₈ t₈ i₈ p₈ S₈ x₈ hx₈
       obtain rfl:=hx₈.ext'
       refine wpAny_bind (wpAny_holding (TE.loc rfl w h₀ A env _ ι₈ P₈ { s with heap:=h₈,toks:=t₈ } _ F ci S₈ _ ?_))
       intro ι₉ P₉ h₉ t₉ i₉ p₉ S₉ x₉ hx₉
       obtain ⟨kb,hkb⟩:=Zkf hx₉
       have le₉:FrzLe (fz P' a (I + 1) I (h₅.get? a) (h₅.get? (I + 1)) (h₅.get? I)) P₉:=p₆.trans (p₇.trans (p₈.trans p₉))
       have same₉:∀ b o,fz P' a (I + 1) I (h₅.get? a) (h₅.get? (I + 1)) (h₅.get? I) b = some o → h₉.get? b = some o:=fun b o q => S₉.keep _ _ (le₉ _ _ q)
       have D₉:DictB w h₉ a i:=D₅.at fun o e => same₉ a o (fz_a.trans e)
       have E₉:IsEnum h₉ (I + 1) I ((i:Int) + 1) v:=same₉ _ _ ((ZlD e1).trans E₅)
       have I₉:h₉.IsListIter I l (i + 1):=by
        obtain ⟨o',ho',r⟩:=I₅
        exact ⟨o',same₉ _ _ ((ZlE e2 e3).trans ho'),r⟩
       refine wpAny_bind (wpAny_standAt (wpAny_bind (wpAny_holding (D₉.set hkb (by omega) fun h₁₀ D₁₀ hs₁₀ => ?_))))
       replace hs₁₀:Heap.SameBut a h₉ h₁₀:=hs₁₀
       refine wpAny_release (wpAny_execs_nil ?_)
       have thr₉:=Zpz (P:=P₉) (fun o q => le₉ _ _ (fz_a.trans q)) (fun o q => le₉ _ _ ((ZlD e1).trans q)) (fun o q => le₉ _ _ ((ZlE e2 e3).trans q)) D₅ E₅ I₅
       refine ⟨21 - (i + 1),by omega,i + 1,_,_,ι₉,fz P₉ a (I + 1) I (h₁₀.get? a) (h₁₀.get? (I + 1)) (h₁₀.get? I),h₁₀,_,v,rfl,rfl,by omega,i'.trans (i₆.trans (i₇.trans (i₈.trans i₉))),?_,
        S₉.fz h00 hLL e1 e2 e3 (Zjc thr₉) (ZhJ S₉.sep thr₉) (fun _ e => e) (fun _ e => e) (fun _ e => e) fun b o q _ _ e => (hs₁₀.2 b q).trans e,fz_a,ZlD e1,ZlE e2 e3,D₁₀,?_,?_,?_⟩
       ·exact Zpy (fun b o q => le₉ _ _ (le₅ b o q)) e1 e2 e3
       ·exact (hs₁₀.2 _ e1).trans E₉
       ·obtain ⟨o',ho',r⟩:=I₉
        exact ⟨o',(hs₁₀.2 _ e2).trans ho',r⟩
       ·rw [Zir e4 e6 e7];exact le₉ _ _ L₅
  ·exact Znd (fun _ _ _ _ _ q => q) e1 e2 e3
  ·exact hk _ _ (S₁.keep _ _ (p₁ _ _ (hP.trans o_e)))
  ·rw [Zir e4 (neS hlL').symm (neI hlL').symm];exact hl
theorem Zkh {d:Nat} {σ:List AO}:TSs (Zb 86 none) d ZcF [none,none,none] σ (.ret (.ref σ.length)) (σ ++ [.dictB]):=by
 intro w h₀ A env pe ι P s E F C S Q k
 obtain ⟨_,_,rfl,c1,C⟩:=C
 obtain ⟨_,_,rfl,c2,C⟩:=C
 obtain ⟨_,_,rfl,c3,C⟩:=C
 obtain ⟨_,_,_,rfl,t1,e1⟩:=c1
 obtain ⟨nm,p1,rfl,n1,n2⟩:=t1
 ·obtain ⟨_,_,_,rfl,d1,d2⟩:=e1
  ·cases d1
   cases d2
   refine wpAny_execs_cons (Zv (up (wpAny_Dict_empty ?_)) rfl rfl)
   have hnew:s.heap.get? s.heap.objs.size = none:=Heap.get?_none_of_le (Nat.le_refl _)
   have h0:h₀.get? s.heap.objs.size = none:=Zax S.keep0 hnew
   have hP:P s.heap.objs.size = none:=S.freshP
   have Sf:=S.freeze (dictOf [] 0) rfl
   have D0:DictB w (s.heap.push (dictOf [] 0)) s.heap.objs.size 0:=⟨[],Heap.DictOf.new s.heap,Nat.le_refl _⟩
   have hg:(s.heap.push (dictOf [] 0)).get? s.heap.objs.size = some (dictOf [] 0):=Heap.get?_push_size _ rfl
   have Pf:frz P s.heap.objs.size (dictOf [] 0) s.heap.objs.size = some (dictOf [] 0):=if_pos rfl
   have lef:=ZjQ S (dictOf [] 0)
   have lefa:∀ b o,b ≠ s.heap.objs.size → P b = some o → frz P s.heap.objs.size (dictOf [] 0) b = some o:=fun b o _ e => lef b o e
   show wpAny _ _ (assign (.Name nm p1) env (.ref s.heap.objs.size)) _ _ _
   change St h₀ env.locals (Zs (Zb 86 none)) [none,none,none] ι (frz P s.heap.objs.size (dictOf [] 0)) σ (s.heap.push (dictOf [] 0)) at Sf
   generalize s.heap.objs.size = a at *
   generalize s.heap.push (dictOf [] 0) = g at *
   refine TA.loc (v:=.ext (.ref a)) w h₀ A env _ ι _ { s with heap:=g } E (.ref a) F ⟨_,_,rfl,n1,n2⟩ Sf .ext _ ?_
   intro ι₁ P₁ g₁ t₁ i₁ p₁ S₁
   have P1a:=p₁ _ _ Pf
   have g1a:=S₁.keep _ _ P1a
   have ha₁:a ≠ env.locals:=fun q => by rw [q,S₁.sep.PL] at P1a;cases P1a
   refine wpAny_execs_cons (Zkg (s:={ s with heap:=g₁,toks:=t₁ }) F c2 S₁ (D0.at fun o e => ?_) (P1a.trans g1a.symm) h0 ?_)
   ·rw [hg] at e;cases e;exact g1a
   intro ρ₂ ι₂ P₂ g₂ t₂ i₂ p₂ P2a hρ S₂ _ sep₂ D₂
   obtain ⟨es,m,hd⟩:=D₂.obj
   have S₃:St h₀ env.locals (Zs (Zb 86 none)) ρ₂ (ι₂ ++ [(a,a)]) P₂ (σ ++ [.dictB]) g₂:=S₂.grow (fun _ _ e => e) ⟨P2a,ha₁,sep₂⟩ ⟨P2a,ha₁,sep₂⟩ ⟨rfl,es,m,hd⟩
   obtain ⟨_,_,rfl,c3⟩:=c3
   refine wpAny_execs_cons (wpAny_Return_some (TE.loc hρ w h₀ A env _ _ P₂ { s with heap:=g₂,toks:=t₂ } E F c3 S₃ _ ?_))
   intro ι₃ P₃ g₃ t₃ i₃ p₃ S₄ x hx
   obtain rfl:=hx.ext'
   refine k ι₃ P₃ g₃ t₃ (i₁.trans (i₂.trans ((List.prefix_append _ _).trans i₃))) ?_ S₄.forget _ (.ret (.ref (d:=a) ?_))
   ·intro b o e
    refine p₃ _ _ (p₂ _ _ ?_)
    have hb:b ≠ a:=fun q => by rw [q,hP] at e;cases e
    show (if b = a then none else P₁ b) = _
    rw [if_neg hb];exact p₁ _ _ (lefa b o hb e)
   ·refine ZbL i₃ ?_
    have:ι₂.length = σ.length:=S₂.len
    rw [← this];simp
theorem Zne {σ:List AO}:OpV 2 (Fn (.ref 434)) [] σ (.ref σ.length) (σ ++ [.dictB]):=by
 refine ZcM (d:=1) (vs:=[]) (ρ:=[none,none,none]) (σ:=σ) (σr:=σ ++ [.dictB]) (g:=[]) (v:=.ref σ.length) (o:=.ret (.ref σ.length)) Zba rfl (k:=3) rfl (by rw [List.append_nil];exact Zkh) rfl (by simp) (by simp [V.lt]) fun k ao e => ?_
 rw [List.getElem?_append] at e
 split at e
 ·exact .inl e
 ·refine .inr ?_
  cases q:k - σ.length with
  | zero => rw [q] at e;simp at e;subst e;trivial
  | succ n => rw [q] at e;simp at e
section
variable {sc:Scope} {σ g:List AO} {a b:Int} {ks:List Int} {d:Nat} {x y:AO}
noncomputable def Zb5 (ks:List Int):List Int:=ks.takeWhile (· != 0)
theorem ZeQ {n i:Nat}:clipAt n (i:Int) = min i n:=clipAt_nat n i
theorem ZgA {i:Nat}:ZbM ks none (some (i:Int)) = ks.take i:=by
 unfold ZbM
 simp only [Option.elim,ZeQ,List.drop_zero,Nat.sub_zero]
 rcases Nat.le_total i ks.length with h | h
 ·rw [Nat.min_eq_left h]
 ·rw [Nat.min_eq_right h,List.take_of_length_le (Nat.le_refl _),List.take_of_length_le h]
theorem Zra {i:Nat}:ZbM ks (some (i:Int)) none = ks.drop i:=by
 unfold ZbM
 simp only [Option.elim,ZeQ]
 rcases Nat.le_total i ks.length with h | h
 ·rw [Nat.min_eq_left h,List.take_of_length_le (by simp)]
 ·rw [Nat.min_eq_right h,List.drop_of_length_le h,List.drop_of_length_le (Nat.le_refl _)];simp
theorem ZkT {i j:Nat}:ZbM ks (some (i:Int)) (some (j:Int)) = (ks.drop i).take (j - i):=by
 unfold ZbM
 simp only [Option.elim,ZeQ]
 rcases Nat.le_total i ks.length with h | h
 ·rw [Nat.min_eq_left h]
  rcases Nat.le_total j ks.length with h' | h'
  ·rw [Nat.min_eq_left h']
  ·rw [Nat.min_eq_right h',List.take_of_length_le (by simp),List.take_of_length_le (by simp;omega)]
 ·rw [Nat.min_eq_right h,List.drop_of_length_le h,List.drop_of_length_le (Nat.le_refl _)];simp
theorem ZeR:∀ {l:List Int} {i:Nat},l.findIdx? (· == 0) = some i → l.take i = l.takeWhile (· != 0)
 | [],i,h => by simp at h
 | x :: l,i,h => by
  rw [List.findIdx?_cons] at h
  split at h
  ·rename_i hx
   cases h
   rw [List.takeWhile_cons_of_neg (by simpa using hx)];rfl
  ·rename_i hx
   obtain ⟨j,hj,rfl⟩:=Option.map_eq_some_iff.mp h
   rw [List.takeWhile_cons_of_pos (by simpa using hx),List.take_succ_cons,ZeR hj]
theorem ZkU {p:Int → Bool}:∀ {l:List Int},(∀ x ∈ l,p x = true) → l.takeWhile p = l
 | [],_ => rfl
 | x :: l,h => by rw [List.takeWhile_cons_of_pos (h x (by simp)),ZkU fun y hy => h y (by simp [hy])]
theorem Zis {l:List Int} (h:l.findIdx? (· == 0) = none):l.takeWhile (· != 0) = l:=by
 rw [List.findIdx?_eq_none_iff] at h
 exact ZkU fun x hx => by simpa [bne] using h x hx
theorem Zd4 (hz:ks.length ≤ 1000000):OpV 1 (Fn (.ref 208)) [.bytes ks] σ (.bytes (Zb5 ks)) σ:=by
 refine Zf (k:=1) (g:=[]) Za0 rfl rfl ?_ (by simp [V.lt])
 rw [List.append_nil]
 refine TSs.set (TE.callm (TE.loc rfl) (Zgw Zd2) (TEs.one TE.byt) (ZkN (x:=0))) (TSs.ret ?_)
 have tb:TB (Zb 36 none) 0 (.cmp (.loc 1) [.Lt] [(.cst (.int (0)))]) [some (.bytes ks),some (.int (ZaI ks 0))] σ (decide (ZaI ks 0 < 0)) σ:=TB.cmp (TE.loc rfl) TE.int Zbs
 unfold Zb5
 cases h:ks.findIdx? (· == 0) with
 | none =>
  have e:ZaI ks 0 = -1:=by unfold ZaI;rw [h]
  rw [e] at tb
  rw [Zis h]
  rw [e]
  exact TE.ite_t tb (TE.loc rfl)
 | some i =>
  have e:ZaI ks 0 = i:=by unfold ZaI;rw [h]
  rw [e,decide_eq_false (by omega)] at tb
  rw [e,← ZeR h,← ZgA]
  exact TE.ite_f tb (TE.slc (TE.loc rfl) TO.none (TO.some (TE.loc rfl)) (Zbt .none .int hz))
end
section
variable {sc:Scope} {σ:List AO} {ks:List Int} {d:Nat}
noncomputable def ZgB (a:Int):Bool:=a != 0
theorem Znf (ho:Oct ks) (hz:ks.length ≤ 1000000):∀ (k i:Nat),ks.length - i = k → i ≤ ks.length → ∃ n,Wh sc 0 (.bool .And [(.cmp (.loc 1) [.Lt] [(.call 75 [(.loc 0)])]),(.cmp (.sub (.loc 0) (.loc 1)) [.NotEq] [(.cst (.int (0)))])]) [(.assign (.loc 1) (.bin .Add (.loc 1) (.cst (.int (1)))))]
  n [some (.bytes ks),some (.int i)] σ (.next [some (.bytes ks),some (.int (Zz ZgB ks i))]) σ:=by
 intro k
 induction k with
 | zero =>
  intro i hk hi
  rw [ZW (.inl (by omega))]
  exact ⟨0,.done (TB.bool (TBs.and_f (TB.atLen rfl rfl hz (by simp;omega))))⟩
 | succ k ih =>
  intro i hk hi
  have hl:i < ks.length:=by omega
  have t1:TB sc 0 (.bool .And [(.cmp (.loc 1) [.Lt] [(.call 75 [(.loc 0)])]),(.cmp (.sub (.loc 0) (.loc 1)) [.NotEq] [(.cst (.int (0)))])]) [some (.bytes ks),some (.int i)] σ (ZgB (ks.getD i 0)) σ :=
   TB.eqv (TB.bool (TBs.and' (TB.atLen rfl rfl hz (decide_eq_true hl)) fun _ => TBs.and' (TB.cmp (TE.at rfl rfl hz hl) TE.int Zew) fun _ => TBs.and_nil)) (by simp [ZgB])
  cases hp:ZgB (ks.getD i 0) with
  | false =>
   rw [hp] at t1
   rw [ZW (.inr hp)]
   exact ⟨0,.done t1⟩
  | true =>
   rw [hp] at t1
   obtain ⟨n,hn⟩:=ih (i + 1) (by omega) (by omega)
   rw [ZeO hl hp]
   refine ⟨n + 1,.step t1 (TSs.set (v:=.int ((i + 1:Nat):Int)) (TE.eqv (TE.bin (TE.loc rfl) TE.int ZK) ?_) TSs.nil) hn⟩
   simp
theorem ZlG (ho:Oct ks) (hz:ks.length ≤ 1000000):OpV 1 (Fn (.ref 173)) [.bytes ks] σ (.bytes (ks.take (Zz ZgB ks 0))) σ:=by
 obtain ⟨n,hn⟩:=Znf (sc:=Zb 18 none) (σ:=σ) ho hz _ 0 rfl (by omega)
 refine Zf (k:=1) (g:=[]) Zd1 rfl rfl ?_ (by simp [V.lt])
 rw [List.append_nil]
 refine TSs.set TE.int (TSs.cons (TS.while hn) (TSs.ret ?_))
 rw [← ZgA]
 exact TE.slc (TE.loc rfl) TO.none (TO.some (TE.loc rfl)) (Zbt .none .int hz)
end
section
variable {sc:Scope} {d:Nat} {ρ ρ₁ ρ₂:List (Option V)} {σ σ₁ σ₂ σ₃:List AO} {o:Out}
theorem Zhi {ex:List AO} {C fI:Addr} {fn:List Nat} {ms:List (Nat × Addr)} {n k:Nat} {code:List MS} {vs:List V} {fs:List (Nat × V)} {o:Out} (hK:(C,fI,fn,ms) ∈ KT) (hc:Zc fI sc n code) (hn:vs.length + 1 = n)
  (hb:TSs sc d code (some (.ref σ.length) :: vs.map some ++ List.replicate k none) (σ ++ [.inst C []]) o (σ ++ .inst C fs :: ex)) (ho:o.gives .none) (hf:∀ ao ∈ AO.inst C fs :: ex,ao.lt (σ ++ .inst C fs :: ex).length):OpV (d + 1) (Fn (.ref C)) vs σ (.ref σ.length) (σ ++ .inst C fs :: ex):=by
 intro c ι P s xs R S hx Q kQ
 obtain ⟨i,j,fi,hft,hfi,hok,hoa,hlen,hsc,hcs⟩:=hc
 obtain ⟨o1,o2,o3,o4,o5,o6,o7⟩:=Zbh hok
 obtain ⟨pm,cdv,oc,osl,hat,hcd⟩:=R.gl.fn fI i j fi hft hfi
 have hnd:(fi.args.args.map (·.arg)).Nodup:=by
  rw [← o6]
  exact List.Sublist.nodup (List.take_sublist _ _) o5
 subst hsc
 have h1:=R.depth
 have h2:=R.units
 obtain ⟨K,X,hF⟩:=R.gl.kin
 have H:=Zea hF hK
 have kp:∀ b o,s.heap.get? b = some o → ((s.heap.push emptyDict).push (instObj C s.heap.objs.size)).get? b = some o:=fun b o e => Heap.get?_push_of_some _ (Heap.get?_push_of_some _ e)
 have kp':∀ b o,c.h₀.get? b = some o → ((s.heap.push emptyDict).push (instObj C s.heap.objs.size)).get? b = some o:=fun b o e => kp b o (S.keep0 b o e)
 have hPf:∀ b,s.heap.objs.size ≤ b → P b = none:=fun b hb => by
  cases e:P b with
  | none => rfl
  | some o => exact absurd (Heap.lt_size (S.keep _ _ e)) (Nat.not_lt.mpr hb)
 have hIf:∀ b,s.heap.objs.size ≤ b → ∀ (i:Nat) (y z:Addr),ι[i]? = some (y,z) → b ≠ y ∧ b ≠ z:=fun b hb i y z e =>
  ⟨fun q => (by subst q;exact absurd (S.freshI e).1 (Nat.not_lt.mpr hb)),fun q => (by subst q;exact absurd (S.freshI e).2 (Nat.not_lt.mpr hb))⟩
 have hLf:∀ b,s.heap.objs.size ≤ b → b ≠ c.L:=fun b hb q => by subst q;exact absurd S.ltL (Nat.not_lt.mpr hb)
 have hx1:((s.heap.push emptyDict).push (instObj C s.heap.objs.size)).get? (s.heap.objs.size + 1) = some (instObj C s.heap.objs.size):=by
  have:=Heap.get?_push_size (s.heap.push emptyDict) (o:=instObj C s.heap.objs.size) rfl
  rwa [Heap.size_push] at this
 have hd1:((s.heap.push emptyDict).push (instObj C s.heap.objs.size)).get? s.heap.objs.size = some emptyDict:=Heap.get?_push_of_some _ (Heap.get?_push_size _ rfl)
 have S2:=S.grow (h':=(s.heap.push emptyDict).push (instObj C s.heap.objs.size)) (a:=s.heap.objs.size + 1) (d:=s.heap.objs.size) (ao:=.inst C []) kp ⟨hPf _ (Nat.le_succ _),hLf _ (Nat.le_succ _),hIf _ (Nat.le_succ _)⟩
  ⟨hPf _ (Nat.le_refl _),hLf _ (Nat.le_refl _),hIf _ (Nat.le_refl _)⟩ ⟨hx1,[],0,hd1,.nil⟩
 refine wpAny_call (Ze6 (makes_of (X.keeps S.keep0) H.makes) (looks_findIn (X.keeps S.keep0) H.init) (fun self => bind_fn (X.keeps S.keep0) self H.initF) ?_)
 generalize hhx:s.heap.objs.size + 1 = x at S2 hx1 ⊢
 generalize hhd:s.heap.objs.size = dx at S2 hx1 hd1 kp kp' ⊢
 generalize hhh:(s.heap.push emptyDict).push (instObj C dx) = h' at S2 hx1 hd1 kp kp' ⊢
 have hnl:xs.length = vs.length:=hx.length.symm
 have hlen':fi.args.args.length = (V.ref σ.length :: vs).length:=by rw [hlen,← hn];rfl
 have hbind:=Zbg (name:=fi.name) (qual:=fi.qual) (body:=fi.body) (scope:=fi.scope) (pm:=pm) (cdv:=cdv) (xs:=.ref x :: xs) hoa (by rw [hlen'];simp [hnl]) hnd
 have pr:ι <+: ι ++ [(x,dx)]:=List.prefix_append _ _
 have hsl:ι.length = σ.length:=S.len
 have wgt:(Code.builtin "type.__call__" ⟨.ref C :: xs,[]⟩).weight = 1:=by kernel_rfl
 have cun:(Code.builtin "type.__call__" ⟨.ref C :: xs,[]⟩).cUnits = 1:=by kernel_rfl
 have hat':=kp' _ _ hat
 have hcd':=hcd.keeps kp'
 have hb':=hb
 rw [← List.append_nil (σ ++ .inst C fs :: ex)] at hb'
 exact ZfY (c:={ c with A:=c.A.under (.builtin "type.__call__" ⟨.ref C :: xs,[]⟩) }) (s:={ s with heap:=h' }) (v:=.none) hok hcs hlen' rfl hb' ho (by simp) (by simp [V.lt]) (fun k' ao e => by
  rw [List.getElem?_append] at e ⊢
  split at e
  ·rename_i q
   rw [if_pos q];exact .inl e
  ·exact .inr (hf ao (List.mem_of_getElem? e))) R.gl (by
  show c.A.depth + Code.weight _ + 2 * d + 5 ≤ recursionLimit
  rw [wgt];omega) (by
  show c.A.units + Code.cUnits _ + 8 * d + 73 ≤ cLine
  rw [cun];omega) R.hand S2 (.cons (.ref (d:=dx) (by rw [← hsl];simp)) (hx.mono pr (.refl _))) hat' hcd' (BindsTo.of_eq hbind) fun ι' P' h'' tk i' p' S3 y hy => by
  obtain rfl:=hy.none'
  exact ⟨rfl,kQ ι' P' h'' tk (pr.trans i') p' S3 _ (.ref (d:=dx) (ZbL i' (by rw [← hsl];simp)))⟩
theorem Zai {C fI:Addr} {fn:List Nat} {ms:List (Nat × Addr)} {fs:List (Nat × V)} {n:Nat} {v:V} {e:ME} {rest:List MS} {ex ex':List AO} (hK:(C,fI,fn,ms) ∈ KT) (hn:n ∈ fn) (h0:ρ[0]? = some (some (.ref σ.length))) (he:TE sc d e ρ (σ ++ .inst C fs :: ex) v (σ ++ .inst C fs :: ex')) (hp:ZbX e = true) (hl:fs.length ≤ 100)
  (hr:TSs sc d rest ρ (σ ++ .inst C (ZC n v fs) :: ex') o σ₂):TSs sc d (.assign (.attr 0 n) e :: rest) ρ (σ ++ .inst C fs :: ex) o σ₂:=by
 have ta:=TA.attr (sc:=sc) (d:=d) (σ:=σ ++ .inst C fs :: ex') (v:=v) h0 at0 hK hn hl
 rw [Zka] at ta
 exact TSs.cons (TS.assign he ta hp rfl) hr
theorem TE.snoc {x y:AO} {ex:List AO} {e:ME} {v:V} (h:TE sc d e ρ (σ ++ x :: ex) v (σ ++ x :: ex ++ [y])):TE sc d e ρ (σ ++ x :: ex) v (σ ++ x :: (ex ++ [y])):=by
 rw [List.append_assoc,List.cons_append] at h;exact h
theorem chunk_ok:OpV 2 (Fn (.ref 187)) [.bytes [61,113],.int 80] σ (.bytes [113]) σ:=by
 refine Zf (d:=1) (k:=3) (g:=[]) Zc2 rfl rfl ?_ (by simp [V.lt])
 rw [List.append_nil]
 have ho:Oct [61,113]:=by
  intro k hk
  simp only [List.mem_cons,List.not_mem_nil,or_false] at hk
  rcases hk with rfl | rfl <;> decide
 refine TSs.set (v:=.bytes [61,113]) (TE.eqv (TE.def rfl Zd1 (TEs.one (TE.loc rfl)) (ZlG ho (by decide))) (congrArg V.bytes (by decide))) ?_
 refine TSs.if_ret (TB.eqv (TB.cmp (TE.slc (TE.loc rfl) TO.none (TO.some TE.int) (Zbt .none .int (by decide))) TE.byt ZpZ) (by decide)) (TSs.ret ?_)
 exact TE.eqv (TE.slc (TE.loc rfl) (TO.some TE.int) (TO.some (TE.loc rfl)) (Zbt .int .int (by decide))) (congrArg V.bytes (by decide))
end
section
variable {sc:Scope} {d:Nat} {ρ ρ₁ ρ₂:List (Option V)} {σ σ₁ σ₂ σ₃:List AO} {o:Out} {txt:List Int} {kL:Nat}
noncomputable def ZbB:List AO:=[.dictB,.barr [],.inst 458 [(15,.int 287),(16,.none)]]
theorem ZlH (hz:txt.length ≤ 1000000) (h0:0 < txt.length) (hL:kL < σ.length):OpV 4 (Fn (.ref 661)) [.bytes txt,.bytes [61,113],.ref kL] σ (.ref σ.length) (σ ++ .inst 661 (Zi txt kL (σ.length + 1) 0 (Z1 txt 0) 1 1 (σ.length + 2) (σ.length + 3)) :: ZbB):=by
 have hK:(661,476,[9,18,19,14,20,21,22,23,24,25,26,27],_) ∈ KT:=.tail _ (.tail _ (.tail _ (.tail _ (.head _))))
 refine Zhi (d:=3) (k:=0) (ex:=ZbB) (fs:=Zi txt kL (σ.length + 1) 0 (Z1 txt 0) 1 1 (σ.length + 2) (σ.length + 3)) (o:=.next [some (.ref σ.length),some (.bytes txt),some (.bytes [61,113]),some (.ref kL)]) hK Zda rfl ?_ rfl fun ao hao => ?_
 ·have l1:(σ ++ AO.inst 661 (ZC 14 (.ref kL) (ZC 19 (.bytes [113]) (ZC 18 (.bytes [61,113]) (ZC 9 (.bytes txt) [])))) :: []).length = σ.length + 1:=by simp
  refine Zai (ex':=[]) hK (by decide) rfl (TE.loc (v:=.bytes txt) rfl) rfl (by simp) ?_
  refine Zai (ex':=[]) hK (by decide) rfl (TE.loc (v:=.bytes [61,113]) rfl) rfl (Nat.le_of_ble_eq_true rfl) ?_
  refine Zai (v:=.bytes [113]) (ex':=[]) hK (by decide) rfl (TE.def rfl Zc2 (TEs.cons (TE.loc rfl) (TEs.one (TE.glob rfl))) (chunk_ok.more (by decide))) rfl (Nat.le_of_ble_eq_true rfl) ?_
  refine Zai (ex':=[]) hK (by decide) rfl (TE.loc (v:=.ref kL) rfl) rfl (Nat.le_of_ble_eq_true rfl) ?_
  have k1:=Zne (σ:=σ ++ AO.inst 661 (ZC 14 (.ref kL) (ZC 19 (.bytes [113]) (ZC 18 (.bytes [61,113]) (ZC 9 (.bytes txt) [])))) :: [])
  rw [l1] at k1
  refine Zai (v:=.ref (σ.length + 1)) (ex':=[.dictB]) hK (by decide) rfl (TE.snoc (TE.def rfl Zba TEs.nil (k1.more (by decide)))) rfl (Nat.le_of_ble_eq_true rfl) ?_
  refine Zai (ex':=[.dictB]) hK (by decide) rfl (TE.int (i:=0)) rfl (Nat.le_of_ble_eq_true rfl) ?_
  have t1:∀ {τ:List AO},TE (Zb 89 (some 0)) 3 (.ite (.cmp (.call 75 [(.loc 1)]) [.Gt] [(.cst (.int (0)))]) (.sub (.loc 1) (.cst (.int (0)))) (.glob 49)) [some (.ref σ.length),some (.bytes txt),some (.bytes [61,113]),some (.ref kL)] τ (.int (Z1 txt 0)) τ:=by
   intro τ
   refine TE.ite_t (TB.eqv (TB.cmp (TE.len rfl hz) TE.int ZbW) ?_) (TE.eqv (TE.sub (TE.loc rfl) TE.int (ZaP (Int.le_refl 0) (by omega) hz)) ?_)
   ·exact decide_eq_true (by omega)
   ·unfold Z1;rw [if_pos h0];rfl
  refine Zai (ex':=[.dictB]) hK (by decide) rfl t1 rfl (Nat.le_of_ble_eq_true rfl) ?_
  refine Zai (ex':=[.dictB]) hK (by decide) rfl (TE.int (i:=1)) rfl (Nat.le_of_ble_eq_true rfl) ?_
  refine Zai (ex':=[.dictB]) hK (by decide) rfl (TE.int (i:=1)) rfl (Nat.le_of_ble_eq_true rfl) ?_
  have b1:=ZdE (d:=3) (σ:=σ ++ AO.inst 661 (ZC 24 (.int 1) (ZC 23 (.int 1) (ZC 22 (.int (Z1 txt 0)) (ZC 21 (.int 0) (ZC 20 (.ref (σ.length + 1)) (ZC 14 (.ref kL) (ZC 19 (.bytes [113]) (ZC 18 (.bytes [61,113]) (ZC 9 (.bytes txt) []))))))))) :: [.dictB])
  rw [show (σ ++ AO.inst 661 (ZC 24 (.int 1) (ZC 23 (.int 1) (ZC 22 (.int (Z1 txt 0)) (ZC 21 (.int 0) (ZC 20 (.ref (σ.length + 1)) (ZC 14 (.ref kL) (ZC 19 (.bytes [113]) (ZC 18 (.bytes [61,113]) (ZC 9 (.bytes txt) []))))))))) :: [.dictB]).length = σ.length + 2 by simp] at b1
  refine Zai (v:=.ref (σ.length + 2)) (ex':=[.dictB,.barr []]) hK (by decide) rfl (TE.snoc (TE.blt (j:=3) rfl (by decide +kernel) rfl TEs.nil b1)) rfl (Nat.le_of_ble_eq_true rfl) ?_
  have c1:=Zfh (d:=2) (u:=.int 287) (v:=.none) (σ:=σ ++ AO.inst 661 (ZC 25 (.ref (σ.length + 2)) (ZC 24 (.int 1) (ZC 23 (.int 1) (ZC 22 (.int (Z1 txt 0)) (ZC 21 (.int 0) (ZC 20 (.ref (σ.length + 1)) (ZC 14 (.ref kL) (ZC 19 (.bytes [113]) (ZC 18 (.bytes [61,113]) (ZC 9 (.bytes txt) [])))))))))) :: [.dictB,.barr []]) (by simp [V.lt]) (by simp [V.lt])
  rw [show (σ ++ AO.inst 661 (ZC 25 (.ref (σ.length + 2)) (ZC 24 (.int 1) (ZC 23 (.int 1) (ZC 22 (.int (Z1 txt 0)) (ZC 21 (.int 0) (ZC 20 (.ref (σ.length + 1)) (ZC 14 (.ref kL) (ZC 19 (.bytes [113]) (ZC 18 (.bytes [61,113]) (ZC 9 (.bytes txt) [])))))))))) :: [.dictB,.barr []]).length = σ.length + 3 by simp] at c1
  refine Zai (v:=.ref (σ.length + 3)) (ex':=ZbB) hK (by decide) rfl (TE.snoc (TE.cls rfl (.tail _ (.tail _ (.tail _ (.head _)))) (TEs.cons (TE.glob rfl) (TEs.one TE.none)) c1)) rfl (Nat.le_of_ble_eq_true rfl) ?_
  refine Zai (ex':=ZbB) hK (by decide) rfl TE.none rfl (Nat.le_of_ble_eq_true rfl) ?_
  exact TSs.nil
 ·have hl:(σ ++ AO.inst 661 (Zi txt kL (σ.length + 1) 0 (Z1 txt 0) 1 1 (σ.length + 2) (σ.length + 3)) :: ZbB).length = σ.length + 4:=by simp [ZbB]
  rw [hl]
  rcases List.mem_cons.mp hao with rfl | hao
  ·exact Zcn (by omega) (by omega) (by omega) (by omega)
  ·simp only [ZbB,List.mem_cons,List.not_mem_nil,or_false] at hao
   rcases hao with rfl | rfl | rfl <;> simp [AO.lt,Fs.lt,V.lt]
end
section
variable {d k:Nat} {σ:List AO} {vs:List V} {ks:List Int} {a b:Int}
theorem Zfi:OpV d (Fn (.type "range")) [.int a] σ (.ref σ.length) (σ ++ [.rng 0 a 1]):=.one fun c ι P s x R S r1 Q kQ => by
 obtain ⟨t,rfl⟩:=r1.int'
 refine up (call_range_1 ?_)
 have pr:ι <+: ι ++ [(s.heap.objs.size,s.heap.objs.size)]:=List.prefix_append _ _
 exact kQ _ P _ _ pr (.refl _) (S.alloc ⟨rfl,_,_,_,IsRange.new ..⟩) _ (.ref (d:=s.heap.objs.size) S.last)
theorem ZlI {e:Int} (he:e ≠ 0) (hs:-1000000 ≤ a ∧ a ≤ 1000000 ∧ -1000000 ≤ b ∧ b ≤ 1000000 ∧ -1000000 ≤ e ∧ e ≤ 1000000):OpV d (Fn (.type "range")) [.int a,.int b,.int e] σ (.ref σ.length) (σ ++ [.rng a b e]):=by
 intro c ι P s xs R S hx Q kQ
 obtain ⟨x,y,z,rfl,r1,r2,r3⟩:=hx.inv3
 obtain ⟨t,rfl⟩:=r1.int'
 obtain ⟨u,rfl⟩:=r2.int'
 obtain ⟨v,rfl⟩:=r3.int'
 refine up (call_range_3 he ?_)
 have pr:ι <+: ι ++ [(s.heap.objs.size,s.heap.objs.size)]:=List.prefix_append _ _
 exact kQ _ P _ _ pr (.refl _) (S.alloc ⟨rfl,_,_,_,IsRange.new ..⟩) _ (.ref (d:=s.heap.objs.size) S.last)
noncomputable def Zb6 (a e:Int):Nat → List Int
 | 0 => []
 | n + 1 => a :: Zb6 (a + e) e n
theorem ZaF (a e:Int):∀ n,(Zb6 a e n).length = n
 | 0 => rfl
 | n + 1 => by rw [Zb6,List.length_cons,ZaF]
theorem Zeg (e:Int):∀ (n:Nat) (a:Int) (i:Nat),i < n → (Zb6 a e n)[i]? = some (a + i * e)
 | 0,_,_,h => absurd h (Nat.not_lt_zero _)
 | n + 1,a,0,_ => by simp [Zb6]
 | n + 1,a,i + 1,h => by
  rw [Zb6,List.getElem?_cons_succ,Zeg e n (a + e) i (by omega)]
  congr 1
  rw [Int.natCast_add,Int.add_mul]
  omega
noncomputable def Zco (a b e:Int):Nat:=(Builtin.Range.rangeSize a b e).toNat
theorem Zcp {e:Int} (hk:σ[k]? = some (.rng a b e)) (hsm:Builtin.Range.small a b e = true) (h0:0 ≤ Builtin.Range.rangeSize a b e):ZeD d (.ref k) σ (fun _ => True) (Za (Zb6 a e (Zco a b e))):=by
 intro c ι P s x Q R S r kQ
 obtain ⟨q,dd,rfl,ei⟩:=r.ref'
 obtain ⟨rfl,t,u,v,hr⟩:=S.objs _ _ _ _ hk ei
 refine up (wpAny_pyIter_range hr hsm ?_)
 refine kQ _ s.toks (fun _ _ _ => True) (fun i o => o = { cls:=.type "range_iterator",dict:=none,data:=.fields #[rawInt (a + i * e),rawInt (Builtin.Range.rangeSize a b e - i),rawInt e],slots:=#[] }) _ (fun _ _ ee => Heap.get?_push_of_some _ ee) (Heap.get?_push_size _ rfl) (by simp) ?_ trivial fun _ _ _ _ _ _ => trivial
 have hn:((Zco a b e:Nat):Int) = Builtin.Range.rangeSize a b e:=Int.toNat_of_nonneg h0
 refine ⟨fun i o ho => (by subst ho;exact trivial),fun {i o s Q E} hI hJ hQ => (by subst hJ;exact up (wpAny_pyIter_rangeiter hI hQ)),?_,?_⟩
 ·intro L N ρ ι P σ s i v Q E o _ S hI hJ hv hQ
  subst hJ
  unfold Za at hv
  rw [List.getElem?_map] at hv
  have hi:i < Zco a b e:=by
   rcases Nat.lt_or_ge i (Zco a b e) with h | h
   ·exact h
   ·rw [List.getElem?_eq_none (by rw [ZaF];exact h)] at hv;cases hv
  rw [Zeg _ _ _ _ hi] at hv
  cases hv
  refine up (wpAny_pyNext_range_item hI (by omega) fun h' hit hs => ?_)
  refine hQ _ h' _ _ .int hit ?_ fun b' o hb eb => (hs.2 b' hb).trans eb
  have e1:a + (i:Int) * e + e = a + ((i + 1:Nat):Int) * e:=by rw [Int.natCast_add,Int.add_mul];omega
  have e2:Builtin.Range.rangeSize a b e - (i:Int) - 1 = Builtin.Range.rangeSize a b e - ((i + 1:Nat):Int):=by omega
  rw [e1,e2]
 ·intro L N ρ ι P σ s i Q E o _ S hI hJ hv hQ
  subst hJ
  have hi:Zco a b e ≤ i:=by
   rcases Nat.lt_or_ge i (Zco a b e) with h | h
   ·unfold Za at hv
    rw [List.getElem?_map,Zeg _ _ _ _ h] at hv;cases hv
   ·exact h
  exact up (wpAny_pyNext_range_end R.hand hI (by omega) fun h' he => hQ h' s.toks fun b' o hb eb => he b' o hb eb)
theorem Zdu:ZeD d (.bytes ks) σ (fun _ => True) (Za ks):=by
 intro c ι P s x Q R S r kQ
 obtain ⟨bb,t,rfl,rfl⟩:=r.bytes'
 refine up (KBw.pyIter_bytes ?_)
 refine kQ _ s.toks (fun _ _ _ => True) (fun i o => o.cls = .type "bytes_iterator" ∧ o.data = .fields #[.bytes bb t,.int i 0]) _ (fun _ _ ee => Heap.get?_push_of_some _ ee) (Heap.get?_push_size _ rfl) ⟨rfl,rfl⟩ ?_ trivial fun _ _ _ _ _ _ => trivial
 refine ⟨fun i o ho => (by unfold ZN;rw [ho.2];trivial),fun {i o s Q E} hI hJ hQ => up (KBw.pyIter_self (i:=i) ⟨o,hI,hJ.1,hJ.2⟩ hQ),?_,?_⟩
 ·intro L N ρ ι P σ s i v Q E o _ S hI hJ hv hQ
  unfold Za at hv
  rw [List.getElem?_map] at hv
  cases hc:bb[i]? with
  | none =>
   have:(KBw.bInts bb)[i]? = none:=by unfold KBw.bInts;rw [List.getElem?_map,Array.getElem?_toList,hc];rfl
   rw [this] at hv;cases hv
  | some y =>
   rw [KBw.ints_get hc] at hv
   cases hv
   refine up (KBw.next_item (i:=i) ⟨o,hI,hJ.1,hJ.2⟩ hc fun h' hit hs => ?_)
   obtain ⟨o',h1,h2,h3⟩:=hit
   exact hQ _ h' _ o' .int h1 ⟨h2,h3⟩ fun b' o hb eb => (hs.2 b' hb).trans eb
 ·intro L N ρ ι P σ s i Q E o _ S hI hJ hv hQ
  have hc:bb[i]? = none:=by
   cases hc:bb[i]? with
   | none => rfl
   | some y =>
    unfold Za at hv
    rw [List.getElem?_map,KBw.ints_get hc] at hv;cases hv
  exact up (KBw.next_end R.hand (i:=i) ⟨o,hI,hJ.1,hJ.2⟩ hc fun h' he => hQ h' s.toks fun b' o hb eb => he b' o hb eb)
theorem Zeh {v:V} (hl:IsL σ v vs):ZeD d v σ (fun σ' => IsL σ' v vs) vs:=by
 intro c ι P s x Q R S r kQ
 obtain ⟨q,items,n,rfl,e1,e2⟩:=hl.items S r
 refine up (wpAny_pyIter_list (Zq e1) ?_)
 refine kQ _ s.toks (fun ι' P' σ' => IsL σ' v vs ∧ VR ι' P' v (.ref q)) (fun i o => o.cls = .type "list_iterator" ∧ o.data = .fields #[.ref q,.int i 0]) _ (fun _ _ ee => Heap.get?_push_of_some _ ee) (Heap.get?_push_size _ rfl) ⟨rfl,rfl⟩ ?_ ⟨hl,r⟩ fun _ _ _ hi hP hK => ⟨hK,r.mono hi hP⟩
 refine ⟨fun i o ho => (by unfold ZN;rw [ho.2];trivial),fun {i o s Q E} hI hJ hQ => up (wpAny_pyIter_listiter (i:=i) ⟨o,hI,hJ.1,hJ.2⟩ hQ),?_,?_⟩
 ·intro L N ρ ι P σ s i u Q E o hsrc S hI hJ hv hQ
  obtain ⟨q',items',n',he,f1,f2⟩:=hsrc.1.items S hsrc.2
  cases he
  obtain ⟨z,hz,hr⟩:=f2.get hv
  refine up (wpAny_pyNext_list_item (i:=i) ⟨o,hI,hJ.1,hJ.2⟩ (Zq f1) (by simpa using hz) fun h' hit hs => ?_)
  obtain ⟨o',h1,h2,h3⟩:=hit
  exact hQ _ h' _ o' hr h1 ⟨h2,h3⟩ fun b' o hb eb => (hs.2 b' hb).trans eb
 ·intro L N ρ ι P σ s i Q E o hsrc S hI hJ hv hQ
  obtain ⟨q',items',n',he,f1,f2⟩:=hsrc.1.items S hsrc.2
  cases he
  have hn:items'[i]? = none:=by
   have h1:=f2.length
   rw [List.getElem?_eq_none_iff] at hv
   rw [Array.getElem?_eq_none]
   simpa [h1] using hv
  exact up (wpAny_pyNext_list_end R.hand (i:=i) ⟨o,hI,hJ.1,hJ.2⟩ (Zq f1) hn fun h' he => hQ h' s.toks fun b' o hb eb => he b' o hb eb)
end
section
variable {sc:Scope} {σ:List AO} {ks:List Int} {d:Nat}
noncomputable def Zbp (ks:List Int) (p:Int × Nat):Int × Nat:=if (decide (p.2 < ks.length) && Za7 (ks.getD p.2 0)) = true then (10 * p.1 + ks.getD p.2 0 - 48,p.2 + 1) else p
noncomputable def Zc5 (ks:List Int) (i:Nat):Int × Nat:=Zbp ks (Zbp ks (0,i))
noncomputable def Zqf:List MS:=[(.ife (.bool .And [(.cmp (.loc 1) [.Lt] [(.call 75 [(.loc 0)])]),(.call 18 [(.sub (.loc 0) (.loc 1))])]) [(.assign (.loc 2) (.bin .Sub (.bin .Add (.bin .Mult (.cst (.int (10))) (.loc 2)) (.sub (.loc 0) (.loc 1))) (.glob 25))),(.assign (.loc 1) (.bin .Add (.loc 1) (.cst (.int (1)))))] [])]
theorem ZkV (hz:ks.length ≤ 1000000) (p:Int × Nat) (t:V):TSs sc 1 Zqf [some (.bytes ks),some (.int p.2),some (.int p.1),some t] σ (.next [some (.bytes ks),some (.int (Zbp ks p).2),some (.int (Zbp ks p).1),some t]) σ:=by
 obtain ⟨f,i⟩:=p
 unfold Zbp
 by_cases hl:i < ks.length
 ·have t1:TB sc 1 (.bool .And [(.cmp (.loc 1) [.Lt] [(.call 75 [(.loc 0)])]),(.call 18 [(.sub (.loc 0) (.loc 1))])]) [some (.bytes ks),some (.int i),some (.int f),some t] σ (Za7 (ks.getD i 0)) σ :=
   TB.eqv (TB.bool (TBs.and' (TB.atLen rfl rfl hz (decide_eq_true hl)) fun _ => TBs.and' (TB.val (TE.def rfl ZbG (TEs.one (TE.at rfl rfl hz hl)) is_digit_ok)) fun _ => TBs.and_nil)) (by simp)
  simp only [hl,decide_true,Bool.true_and]
  cases hp:Za7 (ks.getD i 0) with
  | true =>
   rw [hp] at t1
   rw [if_pos rfl]
   refine TSs.if_do t1 (TSs.set (TE.bin (TE.bin (TE.bin TE.int (TE.loc rfl) (ZjS (Zj7 (by decide) (by decide)))) (TE.at rfl rfl hz hl) ZK) (TE.glob rfl) Z7) (TSs.set (v:=.int ((i + 1:Nat):Int)) (TE.eqv (TE.bin (TE.loc rfl) TE.int ZK) (by simp)) TSs.nil)) TSs.nil
  | false =>
   rw [hp] at t1
   rw [if_neg (by decide)]
   exact TSs.if_go t1 TSs.nil
 ·have t1:TB sc 1 (.bool .And [(.cmp (.loc 1) [.Lt] [(.call 75 [(.loc 0)])]),(.call 18 [(.sub (.loc 0) (.loc 1))])]) [some (.bytes ks),some (.int i),some (.int f),some t] σ false σ :=
   TB.bool (TBs.and_f (TB.atLen rfl rfl hz (decide_eq_false hl)))
  simp only [hl,decide_false,Bool.false_and]
  rw [if_neg (by decide)]
  exact TSs.if_go t1 TSs.nil
theorem ZeS (hz:ks.length ≤ 1000000) {i:Nat}:OpV 2 (Fn (.ref 299)) [.bytes ks,.int i] σ (.tup [.int (Zc5 ks i).1,.int (Zc5 ks i).2]) σ:=by
 refine Zf (k:=2) (g:=[.rng 0 2 1]) Zbi rfl rfl ?_ (by simp [V.lt,V.lts])
 have hr:(σ ++ [.rng 0 2 1])[σ.length]? = some (.rng 0 2 1):=by simp
 have it:ZeD 1 (.ref σ.length) (σ ++ [.rng 0 2 1]) (fun _ => True) [.int 0,.int 1]:=Zcp hr (by decide) (by decide)
 have a1:=ZkV (sc:=Zb 39 none) (σ:=σ ++ [.rng 0 2 1]) hz (0,i) (.int 0)
 have a2:=ZkV (sc:=Zb 39 none) (σ:=σ ++ [.rng 0 2 1]) hz (Zbp ks (0,i)) (.int 1)
 refine TSs.set TE.int (TSs.cons (TS.for (TE.blt (j:=9) rfl (by decide +kernel) rfl (TEs.one TE.int) Zfi) it (.cons TA.loc a1 trivial (.cons TA.loc a2 trivial .nil))) (TSs.ret ?_))
 exact TE.tup (TEs.cons (TE.loc rfl) (TEs.one (TE.loc rfl))) (by simp)
end
section
variable {sc:Scope} {σ:List AO} {ks:List Int} {d:Nat} {ρ:List (Option V)}
noncomputable def Zam (a:Int):Bool:=[45,43,32,35,(48:Int)].contains a
theorem Zng (ho:Oct ks) (hz:ks.length ≤ 1000000) {r:List (Option V)}:∀ (k i:Nat),ks.length - i = k → i ≤ ks.length → ∃ n,Wh sc d (.bool .And [(.cmp (.loc 1) [.Lt] [(.call 75 [(.loc 0)])]),(.cmp (.sub (.loc 0) (.loc 1)) [.In] [(.glob 32)])]) [(.assign (.loc 1) (.bin .Add (.loc 1) (.cst (.int (1)))))]
  n (some (.bytes ks) :: some (.int i) :: r) σ (.next (some (.bytes ks) :: some (.int (Zz Zam ks i)) :: r)) σ:=by
 intro k
 induction k with
 | zero =>
  intro i hk hi
  rw [ZW (.inl (by omega))]
  exact ⟨0,.done (TB.bool (TBs.and_f (TB.atLen rfl rfl hz (by simp;omega))))⟩
 | succ k ih =>
  intro i hk hi
  have hl:i < ks.length:=by omega
  have hb:=ho.get (i:=i)
  have t1:TB sc d (.bool .And [(.cmp (.loc 1) [.Lt] [(.call 75 [(.loc 0)])]),(.cmp (.sub (.loc 0) (.loc 1)) [.In] [(.glob 32)])]) (some (.bytes ks) :: some (.int i) :: r) σ (Zam (ks.getD i 0)) σ :=
   TB.eqv (TB.bool (TBs.and' (TB.atLen rfl rfl hz (decide_eq_true hl)) fun _ => TBs.and' (TB.cmp (TE.at rfl rfl hz hl) (TE.glob rfl) (Zay hb.1 hb.2)) fun _ => TBs.and_nil)) (by simp [Zam])
  cases hp:Zam (ks.getD i 0) with
  | false =>
   rw [hp] at t1
   rw [ZW (.inr hp)]
   exact ⟨0,.done t1⟩
  | true =>
   rw [hp] at t1
   obtain ⟨n,hn⟩:=ih (i + 1) (by omega) (by omega)
   rw [ZeO hl hp]
   refine ⟨n + 1,.step t1 (TSs.set (v:=.int ((i + 1:Nat):Int)) (TE.eqv (TE.bin (TE.loc rfl) TE.int ZK) ?_) TSs.nil) hn⟩
   simp
end
section
variable {sc:Scope} {σ:List AO} {ks:List Int} {d:Nat} {ρ:List (Option V)}
noncomputable def Zjd:List Int:=[105,110,118,97,108,105,100,32,102,111,114,109,97,116,32,40,114,101,112,101,97,116,101,100,32,102,108,97,103,115,41]
noncomputable def ZkW:List Int:=[105,110,118,97,108,105,100,32,102,111,114,109,97,116,32,40,119,105,100,116,104,32,111,114,32,112,114,101,99,105,115,105,111,110,32,116,111,111,32,108,111,110,103,41]
inductive DR
 | bad (at_:Nat) (m:List Int)
 | dir (fl:List Int) (w:Int) (p:V) (l:Int) (at_:Nat)
noncomputable def ZbH (ks:List Int) (j:Nat):V × Nat :=
 if (decide (j < ks.length) && (ks.getD j 0 == 46)) = true then (.int (Zc5 ks (j + 1)).1,(Zc5 ks (j + 1)).2) else (.none,j)
noncomputable def ZbP (ks fl:List Int) (w:Int) (q:V × Nat):DR :=
 if (decide (q.2 < ks.length) && Za7 (ks.getD q.2 0)) = true then .bad q.2 ZkW
 else .dir fl w q.1 (if decide (q.2 < ks.length) = true then ks.getD q.2 0 else 0) (q.2 + 1)
noncomputable def Zt (ks:List Int) (i:Nat):DR :=
 let j:=Zz Zam ks i
 let fl:=(ks.drop i).take (j - i)
 if decide ((5:Int) < fl.length) = true then .bad j Zjd
 else ZbP ks fl (Zc5 ks j).1 (ZbH ks (Zc5 ks j).2)
end
section
variable {sc:Scope} {σ:List AO} {ks:List Int} {d:Nat} {ρ:List (Option V)}
theorem TB.digitAt {i:Nat} {r:List (Option V)} (hz:ks.length ≤ 1000000):TB sc (d + 1) (.bool .And [(.cmp (.loc 1) [.Lt] [(.call 75 [(.loc 0)])]),(.call 18 [(.sub (.loc 0) (.loc 1))])]) (some (.bytes ks) :: some (.int i) :: r) σ (decide (i < ks.length) && Za7 (ks.getD i 0)) σ:=by
 by_cases hl:i < ks.length
 ·exact TB.eqv (TB.bool (TBs.and' (TB.atLen rfl rfl hz (decide_eq_true hl)) fun _ => TBs.and' (TB.val (TE.def rfl ZbG (TEs.one (TE.at rfl rfl hz hl)) (is_digit_ok.more (by omega)))) fun _ => TBs.and_nil)) (by simp [hl])
 ·exact TB.eqv (TB.bool (TBs.and_f (TB.atLen rfl rfl hz (decide_eq_false hl)))) (by simp [hl])
theorem TB.charAt {i j:Nat} {c:Int} {r:List (Option V)} (hz:ks.length ≤ 1000000) (hg:GV[j]? = some (.int c)):TB sc d (.bool .And [(.cmp (.loc 1) [.Lt] [(.call 75 [(.loc 0)])]),(.cmp (.sub (.loc 0) (.loc 1)) [.Eq] [(.glob j)])]) (some (.bytes ks) :: some (.int i) :: r) σ (decide (i < ks.length) && (ks.getD i 0 == c)) σ:=by
 by_cases hl:i < ks.length
 ·exact TB.eqv (TB.bool (TBs.and' (TB.atLen rfl rfl hz (decide_eq_true hl)) fun _ => TBs.and' (TB.cmp (TE.at rfl rfl hz hl) (TE.glob hg) op_eq) fun _ => TBs.and_nil)) (by simp [hl])
 ·exact TB.eqv (TB.bool (TBs.and_f (TB.atLen rfl rfl hz (decide_eq_false hl)))) (by simp [hl])
end
section
variable {sc:Scope} {σ:List AO} {ks:List Int} {d:Nat} {ρ:List (Option V)}
noncomputable def DR.val (σ:List AO):DR → V
 | .bad a m => .tup [.none,.int a,.bytes m]
 | .dir _ _ _ _ a => .tup [.ref σ.length,.int a,.none]
noncomputable def DR.sto (σ:List AO):DR → List AO
 | .bad _ _ => σ
 | .dir fl w p l _ => σ ++ [.inst 288 (ZfT fl w p l)]
noncomputable def Znh:List MS:=[
 (.ife (.bool .And [(.cmp (.loc 1) [.Lt] [(.call 75 [(.loc 0)])]),(.call 18 [(.sub (.loc 0) (.loc 1))])]) [(.ret (some (.tup [(.cst .none),(.loc 1),(.cst (.bytes [105,110,118,97,108,105,100,32,102,111,114,109,97,116,32,40,119,105,100,116,104,32,111,114,32,112,114,101,99,105,115,105,111,110,32,116,111,111,32,108,111,110,103,41]))])))] []),
 (.assign (.loc 6) (.ite (.cmp (.loc 1) [.Lt] [(.call 75 [(.loc 0)])]) (.sub (.loc 0) (.loc 1)) (.cst (.int (0))))),
 (.ret (some (.tup [(.call 21 [(.loc 3),(.loc 4),(.loc 5),(.loc 6)]),(.bin .Add (.loc 1) (.cst (.int (1)))),(.cst .none)])))]
theorem ZoG (hz:ks.length ≤ 1000000) {i0:Int} {fl:List Int} {w:Int} {q:V × Nat} (hq:V.lt (σ.length + 1) q.1) :
  TSs sc 2 Znh [some (.bytes ks),some (.int q.2),some (.int i0),some (.bytes fl),some (.int w),some q.1,none] σ (.ret ((ZbP ks fl w q).val σ)) ((ZbP ks fl w q).sto σ):=by
 have t1:=TB.digitAt (sc:=sc) (d:=1) (σ:=σ) (ks:=ks) (i:=q.2) (r:=[some (.int i0),some (.bytes fl),some (.int w),some q.1,none]) hz
 unfold ZbP
 cases hc:(decide (q.2 < ks.length) && Za7 (ks.getD q.2 0)) with
 | true =>
  rw [hc] at t1
  rw [if_pos rfl]
  exact TSs.if_ret t1 (TSs.ret (TE.tup (TEs.cons TE.none (TEs.cons (TE.loc rfl) (TEs.one TE.byt))) (by simp)))
 | false =>
  rw [hc] at t1
  rw [if_neg (by decide)]
  have tl:TE sc 2 (.ite (.cmp (.loc 1) [.Lt] [(.call 75 [(.loc 0)])]) (.sub (.loc 0) (.loc 1)) (.cst (.int (0)))) [some (.bytes ks),some (.int q.2),some (.int i0),some (.bytes fl),some (.int w),some q.1,none] σ (.int (if decide (q.2 < ks.length) = true then ks.getD q.2 0 else 0)) σ:=by
   by_cases hl:q.2 < ks.length
   ·rw [if_pos (by simp [hl])]
    exact TE.ite_t (TB.atLen rfl rfl hz (decide_eq_true hl)) (TE.at rfl rfl hz hl)
   ·rw [if_neg (by simp [hl])]
    exact TE.ite_f (TB.atLen rfl rfl hz (decide_eq_false hl)) TE.int
  refine TSs.if_go t1 (TSs.set tl (TSs.ret ?_))
  exact TE.tup (TEs.cons (TE.cls rfl (.tail _ (.head _)) (TEs.cons (TE.loc rfl) (TEs.cons (TE.loc rfl) (TEs.cons (TE.loc rfl) (TEs.one (TE.loc rfl))))) (Zhh hq)) (TEs.cons (TE.eqv (TE.bin (TE.loc rfl) TE.int ZK) (by simp)) (TEs.one TE.none))) (by simp)
end
section
variable {sc:Scope} {σ:List AO} {ks:List Int} {d:Nat} {ρ:List (Option V)}
theorem ZhK {n j:Nat}:V.lt n (ZbH ks j).1:=by
 unfold ZbH
 split <;> simp [V.lt]
theorem Zqg {j:Nat}:∀ x,(ZbH ks j).1 ≠ .ext x:=by
 unfold ZbH
 intro x
 split <;> simp
noncomputable def Zqh:List MS:=[
 (.ife (.bool .And [(.cmp (.loc 1) [.Lt] [(.call 75 [(.loc 0)])]),(.cmp (.sub (.loc 0) (.loc 1)) [.Eq] [(.glob 33)])]) [(.assign (.tup [(.loc 5),(.loc 1)]) (.call 30 [(.loc 0),(.bin .Add (.loc 1) (.cst (.int (1))))]))] [])]
theorem ZoH (hz:ks.length ≤ 1000000) {j:Nat} {i0:Int} {fl:List Int} {w:Int} :
  TSs sc 2 (Zqh ++ Znh) [some (.bytes ks),some (.int j),some (.int i0),some (.bytes fl),some (.int w),some .none,none] σ (.ret ((ZbP ks fl w (ZbH ks j)).val σ)) ((ZbP ks fl w (ZbH ks j)).sto σ):=by
 have t1:=TB.charAt (sc:=sc) (d:=2) (σ:=σ) (ks:=ks) (i:=j) (j:=33) (c:=46) (r:=[some (.int i0),some (.bytes fl),some (.int w),some .none,none]) hz rfl
 have tl:=fun q hq => ZoG (sc:=sc) (σ:=σ) (ks:=ks) hz (i0:=i0) (fl:=fl) (w:=w) (q:=q) hq
 have e:=ZhK (ks:=ks) (n:=σ.length + 1) (j:=j)
 have tl:=tl _ e
 unfold ZbH at tl ⊢
 cases hc:(decide (j < ks.length) && (ks.getD j 0 == 46)) with
 | true =>
  rw [hc] at t1 tl
  rw [if_pos rfl] at tl ⊢
  have ta:TE sc 2 (.call 30 [(.loc 0),(.bin .Add (.loc 1) (.cst (.int (1))))]) [some (.bytes ks),some (.int j),some (.int i0),some (.bytes fl),some (.int w),some .none,none] σ (.tup [.int (Zc5 ks (j + 1)).1,.int (Zc5 ks (j + 1)).2]) σ :=
   TE.def rfl Zbi (TEs.cons (TE.loc rfl) (TEs.one (v:=.int ((j + 1:Nat):Int)) (TE.eqv (TE.bin (TE.loc rfl) TE.int ZK) (by simp)))) (ZeS hz)
  exact TSs.if_do t1 (TSs.cons (TS.assign ta (TA.tup (TAs.slots (is:=[5,1]) rfl rfl))) TSs.nil) tl
 | false =>
  rw [hc] at t1 tl
  rw [if_neg (by decide)] at tl ⊢
  exact TSs.if_go t1 tl
theorem Zcq (ho:Oct ks) (hz:ks.length ≤ 1000000) {i:Nat} (hi:i ≤ ks.length):OpV 3 (Fn (.ref 306)) [.bytes ks,.int i] σ ((Zt ks i).val σ) ((Zt ks i).sto σ):=by
 obtain ⟨n,hn⟩:=Zng (sc:=Zb 40 none) (d:=2) (σ:=σ) ho hz (r:=[some (.int i),none,none,none,none]) _ i rfl hi
 have key:TSs (Zb 40 none) 2 ZcC [some (.bytes ks),some (.int i),none,none,none,none,none] σ (.ret ((Zt ks i).val σ)) ((Zt ks i).sto σ):=by
  refine TSs.set (TE.loc rfl) (TSs.cons (TS.while hn) ?_)
  unfold Zt
  dsimp only
  generalize hj:Zz Zam ks i = j
  refine TSs.set (v:=.bytes ((ks.drop i).take (j - i))) (σ₁:=σ) ?_ ?_
  ·rw [← ZkT]
   exact TE.slc (TE.loc rfl) (TO.some (TE.loc rfl)) (TO.some (TE.loc rfl)) (Zbt .int .int hz)
  have hl:((ks.drop i).take (j - i)).length ≤ 1000000:=Nat.le_trans (List.length_take_le' _ _) (Nat.le_trans (by rw [List.length_drop];exact Nat.sub_le _ _) hz)
  generalize (ks.drop i).take (j - i) = fl at hl ⊢
  have tb:TB (Zb 40 none) 2 (.cmp (.call 75 [(.loc 3)]) [.Gt] [(.call 75 [(.glob 32)])]) [some (.bytes ks),some (.int j),some (.int i),some (.bytes fl),none,none,none] σ (decide ((5:Int) < fl.length)) σ :=
   TB.cmp (TE.len rfl hl) (TE.blt (j:=1) rfl rfl rfl (TEs.one (TE.glob rfl)) (ZdD (by decide))) ZbW
  cases hc:decide ((5:Int) < fl.length) with
  | true =>
   rw [hc] at tb
   rw [if_pos rfl]
   exact TSs.if_ret tb (TSs.ret (TE.tup (TEs.cons TE.none (TEs.cons (TE.loc rfl) (TEs.one TE.byt))) (by simp)))
  | false =>
   rw [hc] at tb
   rw [if_neg (by decide)]
   refine TSs.if_go tb (TSs.cons (TS.assign (TE.def rfl Zbi (TEs.cons (TE.loc rfl) (TEs.one (TE.loc rfl))) (ZeS hz)) (TA.tup (TAs.slots (is:=[4,1]) rfl rfl))) (TSs.set TE.none ?_))
   exact ZoH hz
 refine ZcM (k:=5) (g:=[]) (o:=.ret _) Zak rfl rfl (by rw [List.append_nil];exact key) rfl ?_ ?_ ?_
 ·cases Zt ks i <;> simp [DR.sto]
 ·cases Zt ks i <;> simp [DR.sto,DR.val,V.lt,V.lts]
 ·intro k ao e
  have this_p:∀ fl w p l a,Zt ks i = .dir fl w p l a → ∀ n,V.lt n p:=by
   intro fl w p l a h n
   unfold Zt at h
   dsimp only at h
   split at h
   ·cases h
   ·unfold ZbP at h
    split at h
    ·cases h
    ·cases h
     exact ZhK
  cases hr:Zt ks i with
  | bad a m => rw [hr] at e;exact .inl e
  | dir fl w p l a =>
   rw [hr] at e
   simp only [DR.sto] at e ⊢
   rw [List.getElem?_append] at e
   split at e
   ·exact .inl e
   ·rename_i q
    have:k - σ.length = 0:=by
     cases z:k - σ.length with
     | zero => rfl
     | succ n => rw [z] at e;simp at e
    rw [this] at e
    cases e
    exact .inr (by simp [AO.lt,Fs.lt,ZfT,V.lt,this_p fl w p l a hr])
end
section
variable {sc:Scope} {σ g:List AO} {a b:Int} {ks ls:List Int} {d:Nat} {x y:AO} {ρ:List (Option V)} {k:Nat} {fl:List Int} {w:Int} {p:V} {l:Int}
noncomputable def Zei (q n:Int) (ks:List Int):List Int :=
 if (q == 0 && n == 0) = true then [] else List.replicate (q - ks.length).toNat 48 ++ ks
theorem ZfU {n:Int} (D:DirAt σ k fl w .none l):OpV 2 (Fn (.ref 257)) [.ref k,.int n,.bytes ks] σ (.bytes ks) σ:=by
 refine Zf (k:=0) (g:=[]) ZF rfl rfl ?_ (by simp [V.lt])
 rw [List.append_nil]
 have th:=TB.isN (sc:=Zb 38 (some 4)) (d:=1) (ρ:=[some (.ref k),some (.int n),some (.bytes ks)]) (Zb4 D (TE.loc (i:=0) rfl)) D.plain
 exact TSs.if_ret th (TSs.ret (TE.loc rfl))
theorem Zhj {q n:Int} (D:DirAt σ k fl w (.int q) l) (hq:q ≤ 1000) (hz:ks.length ≤ 1000):OpV 2 (Fn (.ref 257)) [.ref k,.int n,.bytes ks] σ (.bytes (Zei q n ks)) σ:=by
 have th:=TB.isN (sc:=Zb 38 (some 4)) (d:=1) (ρ:=[some (.ref k),some (.int n),some (.bytes ks)]) (Zb4 D (TE.loc (i:=0) rfl)) D.plain
 have t2:TB (Zb 38 (some 4)) 1 (.bool .And [(.cmp (.attr (.loc 0) 11) [.Eq] [(.cst (.int (0)))]),(.cmp (.loc 1) [.Eq] [(.cst (.int (0)))])]) [some (.ref k),some (.int n),some (.bytes ks)] σ (q == 0 && n == 0) σ:=by
  refine TB.eqv (TB.bool (TBs.and' (TB.cmp (Zb4 D (TE.loc rfl)) TE.int op_eq) fun _ => TBs.and' (TB.cmp (TE.loc rfl) TE.int op_eq) fun _ => TBs.and_nil)) ?_
  rw [Bool.and_true]
 unfold Zei
 cases hc:(q == 0 && n == 0) with
 | true =>
  rw [hc] at t2
  rw [if_pos rfl]
  refine Zf (k:=0) (g:=[]) ZF rfl rfl ?_ (by simp [V.lt])
  rw [List.append_nil]
  exact TSs.if_go th (TSs.if_ret t2 (TSs.ret TE.byt))
 | false =>
  rw [hc] at t2
  rw [if_neg (by decide)]
  refine Zf (k:=0) (g:=[.list (Za [48])]) ZF rfl rfl ?_ (by simp [V.lt])
  have D':=D.app (g:=[.list (Za [48])])
  refine TSs.if_go th (TSs.if_go t2 (TSs.ret ?_))
  exact TE.bin (TE.fill (c:=48) (n:=q - ks.length) rfl (by decide) (by decide) (TE.bin (Zb4 D' (TE.loc rfl)) (TE.len rfl (by omega)) Z7) (by omega)) (TE.loc rfl) (Z0 (by simp;omega))
end
section
variable {sc:Scope} {σ g:List AO} {a b:Int} {ks ls:List Int} {d:Nat} {x y:AO} {ρ:List (Option V)} {k:Nat} {fl:List Int} {w:Int} {p:V} {l:Int}
noncomputable def ZbI:V → Prop
 | .none => True
 | .int q => q ≤ 1000
 | _ => False
noncomputable def ZX (p:V) (n:Int) (ks:List Int):List Int :=
 match p with
 | .int q => Zei q n ks
 | _ => ks
theorem ZcQ {n:Int} (hp:ZbI p) (hz:ks.length ≤ 1000):(ZX p n ks).length ≤ 1000:=by
 cases p with
 | int q =>
  have hq:q ≤ 1000:=hp
  simp only [ZX,Zei]
  split
  ·simp
  ·simp;omega
 | _ => exact hz
theorem Zni {n:Int} (D:DirAt σ k fl w p l) (hp:ZbI p) (hz:ks.length ≤ 1000):OpV 2 (Fn (.ref 257)) [.ref k,.int n,.bytes ks] σ (.bytes (ZX p n ks)) σ:=by
 cases p with
 | none => exact ZfU D
 | int q => exact Zhj D hp hz
 | _ => exact hp.elim
theorem TE.least {n:Int} (D:DirAt σ k fl w p l) (hp:ZbI p) (hz:ks.length ≤ 1000) {i j:Nat} (h:ρ[i]? = some (some (.ref k))) (hn:ρ[j]? = some (some (.int n))) {e:ME} (he:TE sc (d + 2) e ρ σ (.bytes ks) σ) :
  TE sc (d + 2) (.callm (.loc i) 36 [(.loc j),e]) ρ σ (.bytes (ZX p n ks)) σ :=
 TE.callm (TE.loc h) (Zn (.tail _ (.head _)) (.tail _ (.tail _ (.tail _ (.head _)))) D.at_ rfl ZF) (TEs.cons (TE.loc hn) (TEs.one he)) ((Zni D hp hz).more (by omega))
theorem TE.filled (D:DirAt σ k fl w p l) (hw:0 ≤ w ∧ w ≤ 1000) (hz:ks.length ≤ 1000) (hz':ls.length ≤ 1000) {i:Nat} (h:ρ[i]? = some (some (.ref k))) {e f:ME} (he:TE sc (d + 3) e ρ σ (.bytes ks) σ) (hf:TE sc (d + 3) f ρ σ (.bytes ls) σ) :
  TE sc (d + 3) (.callm (.loc i) 35 [e,f]) ρ σ (.bytes (Zds fl w p ks ls)) σ :=
 TE.callm (TE.loc h) (Zn (.tail _ (.head _)) (.tail _ (.tail _ (.head _))) D.at_ rfl Zaf) (TEs.cons he (TEs.one hf)) ((ZlB D hw hz hz').more (by omega))
noncomputable def smallD:List Int:=[48,49,50,51,52,53,54,55,56,57,97,98,99,100,101,102]
theorem ZcR:Oct smallD:=show ∀ q ∈ smallD,0 ≤ q ∧ q < 256 by decide
theorem ZcS {n:Nat} (hn:n.log2 < 800) {b:Nat} (hb:2 ≤ b):(ZaA ks b n).reverse.length ≤ 1000:=by
 have:=Zgy (ks:=ks) (n:=n) hb
 rw [List.length_reverse];omega
noncomputable def Znj (fl:List Int) (n:Int):List Int :=
 if n < 0 then [45] else if fl.contains 43 = true then [43] else if fl.contains 32 = true then [32] else []
noncomputable def ZeT (fl:List Int) (w:Int) (p:V) (n:Int):List Int :=
 Zds fl w p (Znj fl n) (ZX p n (ZaA smallD 10 n.natAbs).reverse)
theorem ZlJ {n:Int} (D:DirAt σ k fl w p l) (hw:0 ≤ w ∧ w ≤ 1000) (hp:ZbI p) (hn:n.natAbs.log2 < 800):OpV 4 (Fn (.ref 264)) [.ref k,.int n] σ (.bytes (ZeT fl w p n)) σ:=by
 refine Zf (k:=1) (g:=[]) Zag rfl rfl ?_ (by simp [V.lt])
 rw [List.append_nil]
 have fin:∀ {sg:List Int},sg.length ≤ 1000 → TSs (Zb 38 (some 5)) 3 [(.ret (some (.callm (.loc 0) 35 [(.loc 2),(.callm (.loc 0) 36 [(.loc 1),(.call 20 [(.call 74 [(.loc 1)]),(.cst (.int (10))),(.glob 27)])])])))] [some (.ref k),some (.int n),some (.bytes sg)] σ (.ret (.bytes (Zds fl w p sg (ZX p n (ZaA smallD 10 n.natAbs).reverse)))) σ:=by
  intro sg hs
  refine TSs.ret (TE.filled (d:=0) D hw hs (ZcQ hp (ZcS hn (by decide))) rfl (TE.loc rfl) (TE.least (d:=1) D hp (ZcS hn (by decide)) rfl rfl ?_))
  exact TE.def rfl Zad (TEs.cons (TE.blt (j:=0) rfl (by decide +kernel) rfl (TEs.one (TE.loc rfl)) Zgb) (TEs.cons TE.int (TEs.one (TE.glob rfl)))) ((ZbO (b:=10) (by decide) (by decide) rfl ZcR hn).more (by decide))
 have t1:TB (Zb 38 (some 5)) 3 (.cmp (.loc 1) [.Lt] [(.cst (.int (0)))]) [some (.ref k),some (.int n),some (.bytes [])] σ (decide (n < 0)) σ:=TB.cmp (TE.loc rfl) TE.int Zbs
 have t2:TB (Zb 38 (some 5)) 3 (.callm (.loc 0) 33 [(.glob 23)]) [some (.ref k),some (.int n),some (.bytes [])] σ (fl.contains 43) σ:=TB.val (TE.has (d:=2) (j:=23) (a:=43) D rfl rfl (by decide) (by decide))
 have t3:TB (Zb 38 (some 5)) 3 (.callm (.loc 0) 33 [(.glob 24)]) [some (.ref k),some (.int n),some (.bytes [])] σ (fl.contains 32) σ:=TB.val (TE.has (d:=2) (j:=24) (a:=32) D rfl rfl (by decide) (by decide))
 refine TSs.set TE.byt ?_
 unfold ZeT Znj
 by_cases h1:n < 0
 ·rw [decide_eq_true h1] at t1
  rw [if_pos h1]
  exact TSs.if_do t1 (TSs.set TE.byt TSs.nil) (fin (by decide))
 ·rw [decide_eq_false h1] at t1
  rw [if_neg h1]
  cases h2:fl.contains 43 with
  | true =>
   rw [h2] at t2
   rw [if_pos rfl]
   exact TSs.if_else t1 (TSs.if_do t2 (TSs.set TE.byt TSs.nil) TSs.nil) (fin (by decide))
  | false =>
   rw [h2] at t2
   rw [if_neg (by decide)]
   cases h3:fl.contains 32 with
   | true =>
    rw [h3] at t3
    rw [if_pos rfl]
    exact TSs.if_else t1 (TSs.if_else t2 (TSs.if_do t3 (TSs.set TE.byt TSs.nil) TSs.nil) TSs.nil) (fin (by decide))
   | false =>
    rw [h3] at t3
    rw [if_neg (by decide)]
    exact TSs.if_else t1 (TSs.if_else t2 (TSs.if_go t3 TSs.nil) TSs.nil) (fin (by decide))
end
section
variable {sc:Scope} {σ g:List AO} {a b:Int} {ks ls:List Int} {d:Nat} {x y:AO} {ρ:List (Option V)} {k:Nat} {fl:List Int} {w:Int} {p:V} {l:Int}
noncomputable def greatD:List Int:=[48,49,50,51,52,53,54,55,56,57,65,66,67,68,69,70]
theorem Zki:Oct greatD:=show ∀ q ∈ greatD,0 ≤ q ∧ q < 256 by decide
noncomputable def Zit (fl ks:List Int):List Int:=if (fl.contains 35 && (ks.take 1 != [48])) = true then [48] ++ ks else ks
noncomputable def Zah (fl:List Int) (w:Int) (p:V) (l:Int) (n:Nat):List Int :=
 if (l == 117) = true then Zds fl w p [] (ZX p n (ZaA smallD 10 n).reverse)
 else if (l == 111) = true then Zds fl w p [] (Zit fl (ZX p n (ZaA smallD 8 n).reverse))
 else Zds fl w p (if (fl.contains 35 && ((n:Int) != 0)) = true then [48,l] else []) (ZX p n (ZaA (if (l == 120) = true then smallD else greatD) 16 n).reverse)
theorem ZpA {n:Int} (hp:ZbI p) (hz:ks.length ≤ 900):(ZX p n ks).length ≤ 1000:=ZcQ hp (by omega)
noncomputable abbrev ZrV (k:Nat) (n:Nat) (b c e:Option V):List (Option V):=[some (.ref k),some (.int n),b,c,e]
theorem ZbS (D:DirAt σ k fl w p l) {c:Nat} {s:Str} (hs:s = ⟨#[c]⟩):TB sc d (.cmp (.attr (.loc 0) 12) [.Eq] [(.call 82 [(.cst (.str s))])]) (some (.ref k) :: ρ) σ (l == c) σ :=
 TB.cmp (Zbm D (TE.loc rfl)) (TE.ord hs) op_eq
theorem ZrC {n:Nat} (D:DirAt σ k fl w p l) (hw:0 ≤ w ∧ w ≤ 1000) (hp:ZbI p) (hn:n.log2 < 800) (hl:(l == 117) = true):OpV 4 (Fn (.ref 271)) [.ref k,.int n] σ (.bytes (Zah fl w p l n)) σ:=by
 refine Zf (k:=3) (g:=[]) Zu rfl rfl ?_ (by simp [V.lt])
 rw [List.append_nil]
 unfold Zah
 rw [if_pos hl]
 have t:=ZbS (sc:=Zb 38 (some 6)) (d:=3) (ρ:=[some (.int n),none,none,none]) D (c:=117) (s:=Str.ofString "u") (by decide)
 rw [show ((117:Nat):Int) = 117 from rfl,hl] at t
 refine TSs.if_ret t (TSs.ret (TE.filled (d:=0) D hw (by simp) (ZcQ hp (ZcS hn (by decide))) rfl TE.byt (TE.least (d:=1) D hp (ZcS hn (by decide)) rfl rfl ?_)))
 exact TE.def rfl Zad (TEs.cons (TE.loc rfl) (TEs.cons TE.int (TEs.one (TE.glob rfl)))) ((ZbO (b:=10) (by decide) (by decide) rfl ZcR hn).more (by decide))
end
section
variable {sc:Scope} {σ g:List AO} {a b:Int} {ks ls:List Int} {d:Nat} {x y:AO} {ρ:List (Option V)} {k:Nat} {fl:List Int} {w:Int} {p:V} {l:Int}
theorem ZrD {n:Nat} (D:DirAt σ k fl w p l) (hw:0 ≤ w ∧ w ≤ 1000) (hp:ZbI p) (hn:n.log2 < 800) (hl:(l == 117) = false) (hl':(l == 111) = true) (hx:(ZX p n (ZaA smallD 8 n).reverse).length ≤ 999) :
  OpV 4 (Fn (.ref 271)) [.ref k,.int n] σ (.bytes (Zah fl w p l n)) σ:=by
 refine Zf (k:=3) (g:=[]) Zu rfl rfl ?_ (by simp [V.lt])
 rw [List.append_nil]
 unfold Zah
 rw [hl,hl',if_neg (by decide),if_pos rfl]
 have t:=ZbS (sc:=Zb 38 (some 6)) (d:=3) (ρ:=[some (.int n),none,none,none]) D (c:=117) (s:=Str.ofString "u") (by decide)
 rw [show ((117:Nat):Int) = 117 from rfl,hl] at t
 have t':=ZbS (sc:=Zb 38 (some 6)) (d:=3) (ρ:=[some (.int n),none,none,none]) D (c:=111) (s:=Str.ofString "o") (by decide)
 rw [show ((111:Nat):Int) = 111 from rfl,hl'] at t'
 have tb:TE (Zb 38 (some 6)) 3 (.callm (.loc 0) 36 [(.loc 1),(.call 20 [(.loc 1),(.cst (.int (8))),(.glob 27)])]) [some (.ref k),some (.int n),none,none,none] σ (.bytes (ZX p n (ZaA smallD 8 n).reverse)) σ :=
  TE.least (d:=1) D hp (ZcS hn (by decide)) rfl rfl (TE.def rfl Zad (TEs.cons (TE.loc rfl) (TEs.cons TE.int (TEs.one (TE.glob rfl)))) ((ZbO (b:=8) (by decide) (by decide) rfl ZcR hn).more (by decide)))
 refine TSs.if_go t (TSs.if_ret t' (TSs.set tb ?_))
 generalize ZX p n (ZaA smallD 8 n).reverse = body at hx ⊢
 have tc:TB (Zb 38 (some 6)) 3 (.bool .And [(.callm (.loc 0) 33 [(.glob 26)]),(.cmp (.slc (.loc 2) none (some (.cst (.int (1))))) [.NotEq] [(.cst (.bytes [48]))])]) [some (.ref k),some (.int n),some (.bytes body),none,none] σ (fl.contains 35 && (body.take 1 != [48])) σ:=by
  refine TB.eqv (TB.bool (TBs.and' (TB.val (TE.has (d:=2) (j:=26) (a:=35) D rfl rfl (by decide) (by decide))) fun _ => TBs.and' (TB.cmp (TE.slc (TE.loc rfl) TO.none (TO.some TE.int) (Zbt .none .int (by omega))) TE.byt ZmK) fun _ => TBs.and_nil)) ?_
  rw [Bool.and_true,show ZbM body none (some (1:Int)) = body.take 1 from ZgA (i:=1)]
  rfl
 have fin:∀ {bs:List Int},bs.length ≤ 1000 → TSs (Zb 38 (some 6)) 3 [(.ret (some (.callm (.loc 0) 35 [(.cst (.bytes [])),(.loc 2)])))] [some (.ref k),some (.int n),some (.bytes bs),none,none] σ (.ret (.bytes (Zds fl w p [] bs))) σ:=by
  intro bs hs
  exact TSs.ret (TE.filled (d:=0) D hw (by simp) hs rfl TE.byt (TE.loc rfl))
 unfold Zit
 cases hc:(fl.contains 35 && (body.take 1 != [48])) with
 | true =>
  rw [hc] at tc
  rw [if_pos rfl]
  exact TSs.if_do tc (TSs.set (TE.bin (TE.byt (ks:=[48])) (TE.loc rfl) (Z0 (by simp;omega))) TSs.nil) (fin (by simp;omega))
 | false =>
  rw [hc] at tc
  rw [if_neg (by decide)]
  exact TSs.if_go tc (fin (by omega))
end
section
variable {sc:Scope} {σ g:List AO} {a b:Int} {ks ls:List Int} {d:Nat} {x y:AO} {ρ:List (Option V)} {k:Nat} {fl:List Int} {w:Int} {p:V} {l:Int}
theorem ZrE {n:Nat} (D:DirAt σ k fl w p l) (hw:0 ≤ w ∧ w ≤ 1000) (hp:ZbI p) (hn:n.log2 < 800) (hl:(l == 117) = false) (hl':(l == 111) = false) (h0:0 ≤ l) (h1:l < 256) :
  OpV 4 (Fn (.ref 271)) [.ref k,.int n] σ (.bytes (Zah fl w p l n)) σ:=by
 unfold Zah
 rw [hl,hl',if_neg (by decide),if_neg (by decide)]
 have t:=ZbS (sc:=Zb 38 (some 6)) (d:=3) (ρ:=[some (.int n),none,none,none]) D (c:=117) (s:=Str.ofString "u") (by decide)
 rw [show ((117:Nat):Int) = 117 from rfl,hl] at t
 have t':=ZbS (sc:=Zb 38 (some 6)) (d:=3) (ρ:=[some (.int n),none,none,none]) D (c:=111) (s:=Str.ofString "o") (by decide)
 rw [show ((111:Nat):Int) = 111 from rfl,hl'] at t'
 have tx:=ZbS (sc:=Zb 38 (some 6)) (d:=3) (ρ:=[some (.int n),none,none,none]) D (c:=120) (s:=Str.ofString "x") (by decide)
 rw [show ((120:Nat):Int) = 120 from rfl] at tx
 have td:TE (Zb 38 (some 6)) 3 (.ite (.cmp (.attr (.loc 0) 12) [.Eq] [(.call 82 [(.cst (.str (Str.ofString "x")))])]) (.glob 27) (.glob 28)) [some (.ref k),some (.int n),none,none,none] σ (.bytes (if (l == 120) = true then smallD else greatD)) σ:=by
  cases hc:(l == 120) with
  | true => rw [hc] at tx;rw [if_pos rfl];exact TE.ite_t tx (TE.glob rfl)
  | false => rw [hc] at tx;rw [if_neg (by decide)];exact TE.ite_f tx (TE.glob rfl)
 have ho:Oct (if (l == 120) = true then smallD else greatD):=by split;exact ZcR;exact Zki
 have hk:(if (l == 120) = true then smallD else greatD).length = 16:=by split <;> rfl
 generalize (if (l == 120) = true then smallD else greatD) = ds at td ho hk ⊢
 have tb:TE (Zb 38 (some 6)) 3 (.callm (.loc 0) 36 [(.loc 1),(.call 20 [(.loc 1),(.cst (.int (16))),(.loc 3)])]) [some (.ref k),some (.int n),none,some (.bytes ds),none] σ (.bytes (ZX p n (ZaA ds 16 n).reverse)) σ :=
  TE.least (d:=1) D hp (ZcS hn (by decide)) rfl rfl (TE.def rfl Zad (TEs.cons (TE.loc rfl) (TEs.cons TE.int (TEs.one (TE.loc rfl)))) ((ZbO (b:=16) (by decide) (by decide) hk ho hn).more (by decide)))
 have hb:(ZX p n (ZaA ds 16 n).reverse).length ≤ 1000:=ZcQ hp (ZcS hn (by decide))
 generalize ZX p n (ZaA ds 16 n).reverse = body at tb hb ⊢
 have tc:TB (Zb 38 (some 6)) 3 (.bool .And [(.callm (.loc 0) 33 [(.glob 26)]),(.cmp (.loc 1) [.NotEq] [(.cst (.int (0)))])]) [some (.ref k),some (.int n),some (.bytes body),some (.bytes ds),none] σ (fl.contains 35 && ((n:Int) != 0)) σ:=by
  refine TB.eqv (TB.bool (TBs.and' (TB.val (TE.has (d:=2) (j:=26) (a:=35) D rfl rfl (by decide) (by decide))) fun _ => TBs.and' (TB.cmp (TE.loc rfl) TE.int Zew) fun _ => TBs.and_nil)) ?_
  rw [Bool.and_true]
 cases hc:(fl.contains 35 && ((n:Int) != 0)) with
 | true =>
  rw [hc] at tc
  rw [if_pos rfl]
  refine Zf (k:=3) (g:=[.list (Za [48,l])]) Zu rfl rfl ?_ (by simp [V.lt])
  have D':=D.app (g:=[.list (Za [48,l])])
  have hO:Oct [48,l]:=fun q hq => by simp at hq;omega
  have tl:TE (Zb 38 (some 6)) 3 (.call 76 [(.lst [(.glob 25),(.attr (.loc 0) 12)])]) [some (.ref k),some (.int n),some (.bytes body),some (.bytes ds),none] σ (.bytes [48,l]) (σ ++ [.list (Za [48,l])]) :=
   TE.blt (j:=2) rfl (by decide +kernel) rfl (TEs.one (TE.lst (TEs.cons (TE.glob rfl) (TEs.one (Zbm D (TE.loc rfl)))) (by simp))) (Z4 (ks:=[48,l]) (show IsL _ (.ref _) _ from by simp [IsL,Za]) hO (by simp))
  exact TSs.if_go t (TSs.if_go t' (TSs.set td (TSs.set tb (TSs.set (TE.ite_t tc tl) (TSs.ret (TE.filled (d:=0) D' hw (by simp) hb rfl (TE.loc rfl) (TE.loc rfl)))))))
 | false =>
  rw [hc] at tc
  rw [if_neg (by decide)]
  refine Zf (k:=3) (g:=[]) Zu rfl rfl ?_ (by simp [V.lt])
  rw [List.append_nil]
  exact TSs.if_go t (TSs.if_go t' (TSs.set td (TSs.set tb (TSs.set (TE.ite_f tc TE.byt) (TSs.ret (TE.filled (d:=0) D hw (by simp) hb rfl (TE.loc rfl) (TE.loc rfl)))))))
theorem Zje {n:Nat} (D:DirAt σ k fl w p l) (hw:0 ≤ w ∧ w ≤ 1000) (hp:ZbI p) (hn:n.log2 < 800) (h0:0 ≤ l) (h1:l < 256) (hx:(ZX p n (ZaA smallD 8 n).reverse).length ≤ 999) :
  OpV 4 (Fn (.ref 271)) [.ref k,.int n] σ (.bytes (Zah fl w p l n)) σ:=by
 cases hl:(l == 117) with
 | true => exact ZrC D hw hp hn hl
 | false =>
  cases hl':(l == 111) with
  | true => exact ZrD D hw hp hn hl hl' hx
  | false => exact ZrE D hw hp hn hl hl' h0 h1
end
section
variable {sc:Scope} {σ g:List AO} {a b:Int} {ks ls:List Int} {d:Nat} {x y:AO} {ρ:List (Option V)} {k:Nat} {fl:List Int} {w:Int} {p:V} {l:Int}
theorem Zkj:(Zb5 ks).length ≤ ks.length:=by
 unfold Zb5
 exact (List.takeWhile_sublist _).length_le
theorem ZoI (hw:w ≤ 1000) (hz:ks.length ≤ 10000):(Zfg fl w ks).length ≤ 10000:=by rw [Znc];omega
noncomputable def Ziu (fl:List Int) (w n:Int):List Int:=Zb5 (Zfg fl w [n % 256])
theorem Znk {n:Int} (D:DirAt σ k fl w p l) (hw:0 ≤ w ∧ w ≤ 1000):OpV 3 (Fn (.ref 278)) [.ref k,.int n] σ (.bytes (Ziu fl w n)) σ:=by
 refine Zf (k:=0) (g:=[.list (Za [n % 256])]) Za1 rfl rfl ?_ (by simp [V.lt])
 have D':=D.app (g:=[.list (Za [n % 256])])
 have ho:Oct [n % 256]:=fun q hq => by simp at hq;omega
 have t1:TE (Zb 38 (some 7)) 2 (.call 76 [(.lst [(.bin .Mod (.loc 1) (.cst (.int (256))))])]) [some (.ref k),some (.int n)] σ (.bytes [n % 256]) (σ ++ [.list (Za [n % 256])]) :=
  TE.blt (j:=2) rfl (by decide +kernel) rfl (TEs.one (TE.lst (TEs.one (TE.bin (TE.loc rfl) TE.int (Z8 (by omega)))) (by simp))) (Z4 (ks:=[n % 256]) (show IsL _ (.ref _) _ from by simp [IsL,Za]) ho (by simp))
 have t2:TE (Zb 38 (some 7)) 2 (.callm (.loc 0) 34 [(.call 76 [(.lst [(.bin .Mod (.loc 1) (.cst (.int (256))))])])]) [some (.ref k),some (.int n)] σ (.bytes (Zfg fl w [n % 256])) (σ ++ [.list (Za [n % 256])]) :=
  TE.callm (TE.loc rfl) (Zn (.tail _ (.head _)) (.tail _ (.head _)) D.at_ rfl Zae) (TEs.one t1) ((ZhI D' hw (by simp)).more (by omega))
 have hl:(Zfg fl w [n % 256]).length ≤ 10000:=ZoI hw.2 (by simp)
 exact TSs.ret (TE.def rfl Za0 (TEs.one t2) ((Zd4 (by omega)).more (by decide)))
noncomputable def Zqi (p:V) (ks:List Int):List Int :=
 match p with
 | .int q => ZbM ks none (some q)
 | _ => ks
noncomputable def Zfj (fl:List Int) (w:Int) (p:V) (ks:List Int):List Int :=
 if (isNone p && decide ((100:Int) ≤ ks.length)) = true then ks else Zfg fl w (Zqi p (Zb5 ks))
theorem Znl:(Zqi p ks).length ≤ ks.length:=by
 cases p with
 | int q => simp only [Zqi,ZbM,Option.elim,List.length_take,List.length_drop];omega
 | _ => exact Nat.le_refl _
theorem Znm (D:DirAt σ k fl w p l) (hw:0 ≤ w ∧ w ≤ 1000) (hp:ZbI p) (hz:ks.length ≤ 10000):OpV 3 (Fn (.ref 285)) [.ref k,.bytes ks] σ (.bytes (Zfj fl w p ks)) σ:=by
 have tn:∀ ρ':List (Option V),TB (Zb 38 (some 8)) 2 (.cmp (.attr (.loc 0) 11) [.Is] [(.cst .none)]) (some (.ref k) :: ρ') σ (isNone p) σ:=fun ρ' => TB.isN (Zb4 D (TE.loc rfl)) D.plain
 have th:TB (Zb 38 (some 8)) 2 (.bool .And [(.cmp (.attr (.loc 0) 11) [.Is] [(.cst .none)]),(.cmp (.call 75 [(.loc 1)]) [.GtE] [(.glob 29)])]) [some (.ref k),some (.bytes ks),none] σ (isNone p && decide ((100:Int) ≤ ks.length)) σ:=by
  refine TB.eqv (TB.bool (TBs.and' (tn _) fun _ => TBs.and' (TB.cmp (TE.len rfl (by omega)) (TE.glob rfl) Zex) fun _ => TBs.and_nil)) ?_
  rw [Bool.and_true]
 refine Zf (k:=1) (g:=[]) Za2 rfl rfl ?_ (by simp [V.lt])
 rw [List.append_nil]
 unfold Zfj
 cases hc:(isNone p && decide ((100:Int) ≤ ks.length)) with
 | true =>
  rw [hc] at th
  rw [if_pos rfl]
  exact TSs.if_ret th (TSs.ret (TE.loc rfl))
 | false =>
  rw [hc] at th
  rw [if_neg (by decide)]
  have hu:=Zkj (ks:=ks)
  have hcl:=Znl (p:=p) (ks:=Zb5 ks)
  refine TSs.if_go th (TSs.set (TE.def rfl Za0 (TEs.one (TE.loc rfl)) ((Zd4 (by omega)).more (by decide))) (TSs.ret (TE.padded (d:=0) D hw (by omega) rfl ?_)))
  cases p with
  | none => exact TE.ite_t (tn _) (TE.loc rfl)
  | int q => exact TE.ite_f (tn _) (TE.slc (TE.loc rfl) TO.none (TO.some (Zb4 D (TE.loc rfl))) (Zbt .none .int (by omega)))
  | _ => exact hp.elim
end
section
variable {sc:Scope} {σ g:List AO} {d:Nat} {u v:V} {k:Nat} {ρ:List (Option V)}
theorem Zjf {vs:List V} {m:Nat} (hk:σ[k]? = some (.inst 351 [(13,u),(14,v)])) (hl:IsL σ u vs) (hu:∀ x,u ≠ .ext x) (hz:vs.length ≤ 1000) (hp:∀ y ∈ vs,V.lt σ.length y) :
  OpV 1 (Fn (.ref 327)) [.ref k,.int ((m:Int) + 2)] σ (vs.getD m .none) σ:=by
 have hlt:V.lt σ.length (vs.getD m .none):=by
  rw [List.getD_eq_getElem?_getD]
  cases e:vs[m]? with
  | none => simp [V.lt]
  | some y => exact hp y (List.mem_of_getElem? e)
 refine Zf (k:=0) (g:=[]) ZR rfl rfl ?_ hlt
 rw [List.append_nil]
 have tv:TE (Zb 41 (some 1)) 0 (.attr (.loc 0) 13) [some (.ref k),some (.int ((m:Int) + 2))] σ u σ:=TE.attr (TE.loc rfl) (ZA (.tail _ (.tail _ (.head _))) (by decide) hk rfl hu)
 have tm:TE (Zb 41 (some 1)) 0 (.bin .Sub (.loc 1) (.cst (.int (2)))) [some (.ref k),some (.int ((m:Int) + 2))] σ (.int m) σ:=by
  have t:=TE.bin (sc:=Zb 41 (some 1)) (d:=0) (σ:=σ) (ρ:=[some (.ref k),some (.int ((m:Int) + 2))]) (TE.loc (i:=1) rfl) (TE.int (i:=2)) Z7
  rw [show (m:Int) + 2 - 2 = m by omega] at t
  exact t
 have tl:TE (Zb 41 (some 1)) 0 (.call 75 [(.attr (.loc 0) 13)]) [some (.ref k),some (.int ((m:Int) + 2))] σ (.int vs.length) σ:=TE.blt (j:=1) rfl rfl rfl (TEs.one tv) (Zey hl (by omega))
 have tc:=TB.cmp tm tl Zbs
 refine TSs.ret ?_
 by_cases h:m < vs.length
 ·rw [decide_eq_true (show (m:Int) < vs.length by omega)] at tc
  refine TE.ite_t tc (TE.sub tv tm (ZcA hl (by omega) (by omega) ?_))
  rw [List.getD_eq_getElem?_getD,Int.toNat_natCast,List.getElem?_eq_getElem h];rfl
 ·rw [decide_eq_false (show ¬ (m:Int) < vs.length by omega)] at tc
  rw [List.getD_eq_getElem?_getD,List.getElem?_eq_none (by omega)]
  exact TE.ite_f tc TE.none
end
section
variable {sc:Scope} {σ g:List AO} {a b:Int} {ks:List Int} {d:Nat} {x y:AO} {ρ:List (Option V)}
theorem ZoJ (n:Nat):(dec n).length ≤ n.log2 + 1:=by unfold dec;rw [List.length_map];exact Zgx (by omega) n
theorem Zjg (n:Int):Oct (Zac n):=by
 intro k hk
 unfold Zac at hk
 rcases List.mem_append.mp hk with h | h
 ·split at h
  ·simp at h;omega
  ·simp at h
 ·exact Zoz _ k (List.mem_reverse.mp h)
theorem ZgC {n:Int} (hn:n.natAbs.log2 < 800):OpV 1 (Fn (.ref 159)) [.int n] σ (.bytes (Zac n)) σ:=by
 obtain ⟨k,m,pre,hw,hm,hd,hpl⟩:=Zq5 (sc:=Zb 16 none) (σ:=σ) (g:=[]) (n:=n) n.natAbs [] (by simpa using by omega)
 rw [List.nil_append] at hw
 have hl:=ZoJ n.natAbs
 have ho:=Zjg n
 have hlen:(Zac n).length ≤ 1000:=by
  unfold Zac
  rw [List.length_append,List.length_reverse]
  split <;> simp <;> omega
 refine Zf (k:=2) (g:=[.list (Za (Zac n))]) Zb0 rfl rfl ?_ (by simp [V.lt])
 have t0:TEs (Zb 16 none) 0 [(.call 74 [(.loc 0)]),(.lst [])] [some (.int n),none,none] σ [.int (n.natAbs:Int),.ref σ.length] (σ ++ [.list []]) :=
  TEs.cons (TE.blt (j:=0) rfl rfl rfl (TEs.one (TE.loc rfl)) Zgb) (TEs.one (TE.lst TEs.nil))
 refine TSs.cons (TS.pack t0 (is:=[1,2]) rfl (.inl rfl) rfl (by decide) (by simp)) ?_
 show TSs _ _ _ (ZeP n n.natAbs σ.length) (σ ++ .list (Za []) :: []) _ _
 refine TSs.cons (TS.while hw) ?_
 have s1:TE (Zb 16 none) 0 (.callm (.loc 2) 28 [(.bin .Add (.cst (.int (48))) (.loc 1))]) (ZeP n m σ.length) (σ ++ .list (Za pre) :: []) .none (σ ++ .list (Za (dec n.natAbs)) :: []):=by
  rw [hd]
  exact Zke (TE.bin TE.int (TE.loc rfl) ZK) (by omega)
 refine TSs.do s1 ?_
 have fin:∀ l:List Int,l.reverse = Zac n → TSs (Zb 16 none) 0 [(.expr (.callm (.loc 2) 30 [])),(.ret (some (.call 76 [(.loc 2)])))] (ZeP n m σ.length) (σ ++ .list (Za l) :: []) (.ret (.bytes (Zac n))) (σ ++ [.list (Za (Zac n))]):=by
  intro l hr
  have hll:l.length ≤ 1000:=by rw [← hr,List.length_reverse] at hlen;exact hlen
  refine TSs.do (v:=.none) (σ₁:=σ ++ .list (Za (Zac n)) :: []) ?_ (TSs.ret (TE.blt (j:=2) rfl (by decide +kernel) rfl (TEs.one (TE.loc rfl)) (Z4 (show IsL _ (.ref _) _ from at0) ho (by omega))))
  rw [← hr,← ZhG]
  exact TE.callm (TE.loc rfl) (ZP Zc3 at0) TEs.nil (ZfC (by rw [Zg];omega))
 by_cases hneg:n < 0
 ·refine TSs.if_do (TB.eqv (TB.cmp (TE.loc rfl) TE.int Zbs) (decide_eq_true hneg)) (TSs.do (Zke TE.int (by omega)) TSs.nil) (fin _ ?_)
  unfold Zac
  rw [if_pos hneg]
  simp
 ·refine TSs.if_go (TB.eqv (TB.cmp (TE.loc rfl) TE.int Zbs) (decide_eq_false hneg)) (fin _ ?_)
  unfold Zac
  rw [if_neg hneg]
  simp
theorem Zhk:OpV 2 (Fn (.ref 166)) [.bytes ks] σ (.bytes ks) σ:=by
 refine Zf (k:=0) (g:=[]) ZaZ rfl rfl ?_ (by simp [V.lt])
 rw [List.append_nil]
 exact TSs.if_ret (TB.val (TE.isi (j:=2) rfl rfl (by decide +kernel) ZbY)) (TSs.ret (TE.loc rfl))
theorem Zjh {n:Int} (hn:n.natAbs.log2 < 800):OpV 2 (Fn (.ref 166)) [.int n] σ (.bytes (Zac n)) σ:=by
 refine Zf (k:=0) (g:=[]) ZaZ rfl rfl ?_ (by simp [V.lt])
 rw [List.append_nil]
 refine TSs.if_go (TB.val (TE.isi (j:=2) rfl rfl (by decide +kernel) Zfa)) ?_
 exact TSs.if_ret (TB.val (TE.def rfl ZE (TEs.one (TE.loc rfl)) is_number_int)) (TSs.ret (TE.def rfl Zb0 (TEs.one (TE.loc rfl)) (ZgC hn)))
theorem ZoK:OpV 2 (Fn (.ref 166)) [.none] σ .none σ:=by
 refine Zf (k:=0) (g:=[]) ZaZ rfl rfl ?_ (by simp [V.lt])
 rw [List.append_nil]
 refine TSs.if_go (TB.val (TE.isi (j:=2) rfl rfl (by decide +kernel) Zcg)) ?_
 exact TSs.if_go (TB.val (TE.def rfl ZE (TEs.one (TE.loc rfl)) is_number_none)) (TSs.ret TE.none)
end
end Mine
section
namespace MineL
open PySem.Builtin.ObjectAttr
section
variable {prog:Program} {w:World} {A:Around} {E:Value → Shared → Prop} {h:Heap} {g:Array GenState} {d:Drawn} {t:Nat} {os:OsState}
variable {nm q:Str} {bs:List Value} {sub:List Value} {ab:Bool} {col:Option Bool} {dd:Option Addr} {k0 k1 k2 k3 k5:Option Value} {mN:Str → Option Value} {x:Addr} {name:Str} {v:Value} {o:Obj}
theorem store_first {tk:Tok} {Q:PySem.Fin → Shared → Prop} (hC:h.get? 74 = some (excClassObj nm q 74 73 bs [.type "Exception",.type "BaseException",.type "object"] true [] sub ab col dd k0 k1 k2 k3 k5 "Exception.__new__")) (hn:h.Ns 73 mN) (hna:mN name = none)
  (hB:typeLookup (.type "Exception") name = pure none) (hx:h.get? x = some o) (hc:o.cls = .ref 74) (hd:o.dict = none) (hf:∃ vs,o.data = .fields vs)
  (hq:∀ h' tk',(∀ b ob,b ≠ x → h.get? b = some ob → h'.get? b = some ob) → h'.get? x = some { o with dict:=some h.objs.size } → h'.Ns1 h.objs.size (fun y => if y = name then some v else none) → Q (.done (.ret .none)) ⟨h',g,d,tk',os⟩) :
  wpAny (model prog w) A (Builtin.«object.__setattr__» ⟨[.ref x,.str name tk,v],[]⟩) Q E ⟨h,g,d,t,os⟩:=by
 have SF:=PySem.F.store_Exception
 have hpass:=SF.passes (.ref x)
 obtain ⟨vs,hf⟩:=hf
 unfold Builtin.«object.__setattr__»
 repeat (first | rw [refuse_eq] | (rw [refuseLoop_ref,hpass]) | (with_reducible refine wpAny_loadPart_at hx ?_;rw [hc]) | with_reducible refine wpAny_mroOf_exc hC ?_ | (with_reducible refine wpAny_typeLookup_exc hC hn SF.mro hB ?_;rw [hna]) | wp_step)
 rw [hd,if_neg (by simp [typeHasDict])]
 split
 ·rename_i hcd
  cases hcd
 split
 ·rename_i c hcd
  rw [hf] at hcd;cases hcd
 ·have hx₁:(h.push { cls:=.type "dict",data:=.dict #[] }).get? x = some o:=Heap.get?_push_of_some _ hx
  have hxs:x ≠ h.objs.size:=Nat.ne_of_lt (Heap.lt_size hx)
  refine wpAny_bind (wpAny_alloc' ?_)
  refine wpAny_bind (wpAny_update' hx₁ ?_)
  refine wpAny_pure ?_
  have hgd:((h.push { cls:=.type "dict",data:=.dict #[] }).update x fun o => { cls:=o.cls,dict:=some h.objs.size,data:=o.data,slots:=o.slots }).get? h.objs.size
    = some { cls:=.type "dict",data:=.dict #[] } :=
   (Heap.get?_update_ne _ _ _ _ hxs.symm).trans (Heap.get?_push_at rfl rfl)
  have hnd:((h.push { cls:=.type "dict",data:=.dict #[] }).update x fun o => { cls:=o.cls,dict:=some h.objs.size,data:=o.data,slots:=o.slots }).Ns h.objs.size (fun _ => none) :=
   ⟨_,#[],_,hgd,rfl,fun e he => absurd he (by simp),fun _ => rfl⟩
  show wpAny _ _ (storeInDict h.objs.size (.str name tk) name v) _ _ _
  unfold storeInDict newKeyGuard
  refine wpAny_bind (wpAny_pure (wpAny_bind (wpAny_nsSet1 (Heap.Ns1.of_empty hnd) fun h' hn' hs => ?_)))
  obtain ⟨oD,esD,epD,hoD,hdD,hcD⟩:=hn'.count (Within.cons name v Within.nil)
  refine wpAny_bind (wpAny_lookBehind hoD (by rw [hdD];exact pastItsLine_dict (Nat.le_trans hcD (by rw [List.length_cons,List.length_nil,sizeLine_eq];omega))) ?_)
  wp_walk
  refine hq h' _ (fun b ob hbx hb => ?_) ?_ hn'
  ·exact (hs.2 b (Nat.ne_of_lt (Heap.lt_size hb))).trans ((Heap.get?_update_ne _ _ _ _ hbx).trans (Heap.get?_push_of_some _ hb))
  ·refine (hs.2 x hxs).trans (Heap.get?_update_self _ hx₁ ?_)
   have hfr:=(Heap.get?_some_iff.mp hx).2
   obtain ⟨oc,od,odt,osl⟩:=o
   cases odt <;> first | rfl | exact hfr
theorem call_first {tk:Tok} {R:Result → Shared → Prop} {bm:List Value} {sa owner:String} (hbm:bm = [.type "Exception",.type "BaseException",.type "object"]) (SF:StoreFacts "Exception" bm sa owner) (hC:h.get? 74 = some (excClassObj nm q 74 73 bs [.type "Exception",.type "BaseException",.type "object"] true [] sub ab col dd k0 k1 k2 k3 k5 "Exception.__new__")) (hn:h.Ns 73 mN) (hna:mN name = none)
  (hB:typeLookup (.type "Exception") name = pure none) (hx:h.get? x = some o) (hc:o.cls = .ref 74) (hd:o.dict = none) (hf:∃ vs,o.data = .fields vs)
  (hq:∀ h' tk',(∀ b ob,b ≠ x → h.get? b = some ob → h'.get? b = some ob) → h'.get? x = some { o with dict:=some h.objs.size } → h'.Ns1 h.objs.size (fun y => if y = name then some v else none) → R (.ok (.ret .none)) ⟨h',g,d,tk',os⟩) :
  codeAny (model prog w) A (.call (.builtin sa) ⟨[.ref x,.str name tk,v],[]⟩) R ⟨h,g,d,t,os⟩:=by
 subst hbm
 exact codeAny_call_builtin SF.slot.plain SF.entry (wpAny_check_sa SF hC hx hc (store_first hC hn hna hB hx hc hd hf hq))
theorem attr_first {Q:Unit → Shared → Prop} (hC:h.get? 74 = some (excClassObj nm q 74 73 bs [.type "Exception",.type "BaseException",.type "object"] true [] sub ab col dd k0 k1 k2 k3 k5 "Exception.__new__")) (hn:h.Ns 73 mN) (hns:mN "__setattr__" = none) (hna:mN name = none)
  (hB:typeLookup (.type "Exception") name = pure none) (hx:h.get? x = some o) (hc:o.cls = .ref 74) (hd:o.dict = none) (hf:∃ vs,o.data = .fields vs)
  (hq:∀ h' tk',(∀ b ob,b ≠ x → h.get? b = some ob → h'.get? b = some ob) → h'.get? x = some { o with dict:=some h.objs.size } → h'.Ns1 h.objs.size (fun y => if y = name then some v else none) → Q () ⟨h',g,d,tk',os⟩) :
  wpAny (model prog w) A (setAttr (.ref x) name v) Q E ⟨h,g,d,t,os⟩:=by
 obtain ⟨sa,SF⟩:∃ sa,StoreFacts "Exception" [.type "Exception",.type "BaseException",.type "object"] sa "object":=⟨_,PySem.F.store_Exception⟩
 have f3:=SF.slot.bind (.ref x)
 unfold setAttr callSpecial? specialOf
 repeat (any_goals (first | assumption | (with_reducible refine wpAny_loadPart_at hx ?_;rw [hc]) | (with_reducible refine wpAny_typeLookup_exc hC hn SF.mro SF.slot.lookup ?_;rw [hns]) | wp_step))
 refine call_first rfl SF hC hn hna hB hx hc hd hf (fun h' tk' h1 h2 h3 => ?_)
 repeat (any_goals (first | assumption | wp_step))
 exact hq h' tk' h1 h2 h3
end
end MineL
end
namespace Mine
theorem ZfD {w:World} {A:Around} {env:Env} {sc:Scope} {s:Shared} {E:Value → Shared → Prop} {pe:Expr} {i c:Nat} {x:Addr} {y:Value} {m:Str → Option Value} {Q:Unit → Shared → Prop} (hs:env.scope = sc) (hk:sc.kind = .function) (C:CT sc pe (.attr i c))
  (hm:s.heap.Ns env.locals m) (hy:∀ n,(Zs sc)[i]? = some n → m n = some (.ref x)) (h:∀ nm,AN[c]? = some nm → PySem.wpAny (model pw w) A (setAttr (.ref x) nm y) Q E s):wpAny (model pw w) A (assign pe env y) Q E s:=by
 obtain ⟨_,_,_,_,rfl,h1,h2,h3,h4⟩:=C
 rw [arm_assign_Attribute]
 refine wpAny_bind (wpAny_holding (wpAny_Name (up (wpAny_loadName_local (by rw [hs];exact hk) (by rw [Env.kindOf,hs];exact h2) hm (hy _ h1) ?_)) h3))
 exact wpAny_bind (wpAny_standAt (wpAny_bind (wpAny_holding (wpAny_mono (up (h _ h4)) (fun _ _ q => wpAny_release q) fun _ _ q => q))))
noncomputable abbrev ZkX (t:Addr):Data:=.fields #[.ref t,.none,.none,.none,.bool false,.none]
theorem Znn:typeLookup (.type "Exception") (Str.ofString "value") = pure none:=by rw [typeLookup_type,builtinLookup_eq_fast];kernel_rfl
theorem Zno:typeLookup (.type "Exception") (Str.ofString "trace") = pure none:=by rw [typeLookup_type,builtinLookup_eq_fast];kernel_rfl
theorem Znp {w:World} {A:Around} {h₀:Heap} {s:Shared} {e:Addr} {o:Obj} {y:Value} {R:Result → Shared → Prop} (G:Glob w h₀) (k0:∀ b o,h₀.get? b = some o → s.heap.get? b = some o) (hdep:A.depth < recursionLimit)
  (hx:s.heap.get? e = some o) (hc:o.cls = .ref 74) (hd:o.dict = none) (hf:∃ vs,o.data = .fields vs) (he0:h₀.get? e = none)
  (hR:∀ h' tk dd,(∀ b ob,b ≠ e → s.heap.get? b = some ob → h'.get? b = some ob) → h'.get? e = some { o with dict:=some dd } → R (.ok (.ret .none)) { s with heap:=h',toks:=tk }) :
  codeAny (model pw w) A (.call (.ref 71) ⟨[.ref e,y],[]⟩) R s:=by
 obtain ⟨i,j,fi,hft,hfi,hok,hoa,hlen,hsc,hcs⟩:=Zcu
 obtain ⟨o1,o2,o3,o4,o5,o6,o7⟩:=Zbh hok
 obtain ⟨pm,cdv,oc,osl,hat,hcd⟩:=(G.fn 71 i j fi hft hfi).keeps k0
 obtain ⟨nm,q,bs,sub,ab,col,dd,k1,k2,k3,k4,k5,hC⟩:=G.exc
 obtain ⟨mN,hN,hNi,hNf⟩:=G.excNs
 have hnd:(fi.args.args.map (·.arg)).Nodup:=by
  rw [← o6]
  exact List.Sublist.nodup (List.take_sublist _ _) o5
 have hbind:=Zbg (name:=fi.name) (qual:=fi.qual) (body:=fi.body) (scope:=fi.scope) (pm:=pm) (cdv:=cdv) (xs:=[.ref e,y]) hoa hlen hnd
 have hnl:(fi.args.args.map (·.arg)).length = [Value.ref e,y].length:=by rw [List.length_map];exact hlen
 refine Zaw (fd:=fnOf fi.name fi.qual fi.args fi.body fi.scope .none .none .none pm none cdv .none) (body:=fi.body) (binds:=(fi.args.args.map (·.arg)).zip [.ref e,y])
  hdep hat rfl (G.lim.keeps k0) hcd rfl (BindsTo.of_eq hbind) o4 (fun y hy => o7 _ (List.of_mem_zip hy).1) (fun h₁ hns k₁ => ?_) o2 o3 o1
 have C:=hcs
 rw [← hsc] at C
 generalize hE:callEnv (fnOf fi.name fi.qual fi.args fi.body fi.scope .none .none .none pm none cdv .none) s.heap.objs.size 71 = env
 have es:env.scope = fi.scope:=by subst hE;rfl
 have el:env.locals = s.heap.objs.size:=by subst hE;rfl
 have hm:∀ (i:Nat) (n:Str) (z:Value),i < 2 → (Zs fi.scope)[i]? = some n → [Value.ref e,y][i]? = some z → ((fi.args.args.map (·.arg)).zip [.ref e,y]).reverse.lookup n = some z:=fun i n z hi e1 e2 =>
  ZcL hnl hnd (ZfX o6 (by rw [hlen];exact hi) e1) e2
 generalize fi.body = bd at C ⊢
 have hL0:s.heap.objs.size ≠ e:=(Nat.ne_of_lt (Heap.lt_size hx)).symm
 obtain ⟨_,_,rfl,c1,c2⟩:=C
 obtain ⟨_,_,rfl,c2,c3⟩:=c2
 cases c3
 obtain ⟨_,_,_,rfl,t1,e1⟩:=c1
 obtain ⟨_,_,_,rfl,t2,e2⟩:=c2
 refine wpAny_execs_cons (Zv ?_ (Zh7 e1 rfl) (ZeB e1 t1 rfl))
 rw [ZH t1]
 obtain ⟨_,_,rfl,p1,p2,p3⟩:=e1
 refine wpAny_Name (up (wpAny_loadName_local (by rw [es];exact o1) (by rw [Env.kindOf,es];exact p2) (by rw [el];exact hns) (hm 1 _ y (by omega) p1 rfl) ?_)) p3
 refine ZfD es o1 t1 (by rw [el];exact hns) (fun n hn => hm 0 n _ (by omega) hn rfl) fun nm' hnm => ?_
 have:nm' = Str.ofString "value":=by
  have z:AN[16]? = some (Str.ofString "value"):=by decide +kernel
  exact Option.some.inj (hnm.symm.trans z)
 subst this
 have hx1:=k₁ _ _ hx
 have hC1:=k₁ _ _ (k0 _ _ hC)
 refine MineL.attr_first hC1 ((hN.keeps k0).keeps k₁) (hNf _ (by decide +kernel)) (hNf _ (by decide +kernel)) Znn hx1 hc hd hf fun h₂ tk₂ k₂ x₂ n₂ => ?_
 have ne74:(74:Nat) ≠ e:=fun q => by subst q;rw [hC] at he0;cases he0
 have ne73:(73:Nat) ≠ e:=fun q => by
  subst q
  obtain ⟨oN,_,_,z,_⟩:=hN
  rw [z] at he0;cases he0
 have neL:h₁.objs.size ≠ e:=(Nat.ne_of_lt (Heap.lt_size hx1)).symm
 have hns2:h₂.Ns s.heap.objs.size (fun z => ((fi.args.args.map (·.arg)).zip [.ref e,y]).reverse.lookup z):=by
  obtain ⟨oL,es',ep,z,r⟩:=hns
  exact ⟨oL,es',ep,k₂ _ _ hL0 z,r⟩
 refine wpAny_execs_cons (Zv ?_ (Zh7 e2 rfl) (ZeB e2 t2 rfl))
 rw [ZH t2]
 obtain ⟨_,_,rfl,q1⟩:=e2
 cases q1
 refine Zf4 (wpAny_items_nil ⟨by simp,?_⟩)
 have kp:∀ b ob,h₂.get? b = some ob → (h₂.push { cls:=.type "list",data:=.seq #[] }).get? b = some ob:=fun b ob z => Heap.get?_push_of_some _ z
 refine ZfD es o1 t2 (by rw [el];exact hns2.keeps kp) (fun n hn => hm 0 n _ (by omega) hn rfl) fun nm' hnm => ?_
 have:nm' = Str.ofString "trace":=by
  have z:AN[17]? = some (Str.ofString "trace"):=by decide +kernel
  exact Option.some.inj (hnm.symm.trans z)
 subst this
 have I:(h₂.push { cls:=.type "list",data:=.seq #[] }).Inst e 74 (fun z => if z = Str.ofString "value" then some y else none):=by
  refine ⟨_,kp _ _ x₂,hc,fun c z => ?_,.inr ⟨h₁.objs.size,rfl,neL,?_⟩⟩
  ·obtain ⟨vs,hf⟩:=hf
   rw [hf] at z;cases z
  ·obtain ⟨od,es',ep,z,r⟩:=n₂
   exact ⟨od,es',ep,kp _ _ z,r⟩
 refine store_attr PySem.F.store_Exception (kp _ _ (k₂ _ _ ne74 hC1)) (mN:=mN) ?_ (hNf _ (by decide +kernel)) (hNf _ (by decide +kernel)) Zno (Ne.symm ne74) I (fun h₃ tk₃ I₃ k₃ x₃ => ?_)
 ·have:h₁.Ns 73 mN:=(hN.keeps k0).keeps k₁
  obtain ⟨oN,es',ep,z,r⟩:=this
  exact ⟨oN,es',ep,kp _ _ (k₂ _ _ ne73 z),r⟩
 obtain ⟨o₁,y1,y2,y3,y4,y5⟩:=x₃ _ (kp _ _ x₂)
 refine wpAny_execs_nil ?_
 refine hR h₃ tk₃ h₁.objs.size (fun b ob hb z => ?_) ?_
 ·refine k₃ b ob hb (fun o₀ dx z1 z2 => ?_) (kp _ _ (k₂ _ _ hb (k₁ _ _ z)))
  have:o₀ = _:=Option.some.inj (z1.symm.trans (kp _ _ x₂))
  subst this
  have:h₁.objs.size = dx:=Option.some.inj z2
  subst this
  exact Nat.ne_of_lt (Heap.lt_size (k₁ _ _ z))
 ·rw [y1]
  obtain ⟨c1,c2,c3,c4⟩:=o₁
  dsimp only at y2 y3 y4 y5
  subst y2 y3 y4
  rw [y5 _ rfl]
theorem Zkk {M:Model} {A:Around} {E:Value → Shared → Prop} {h:Heap} {g:Array GenState} {d:Drawn} {t:Nat} {os:OsState} {Q:Bool → Shared → Prop} {nm q:Str} {bs bm sub:List Value} {ab:Bool} {col:Option Bool} {dd:Option Addr} {k0 k1 k2 k3 k5:Option Value} {newId:String} {e:Addr} {o:Obj}
  (hC:h.get? 74 = some (excClassObj nm q 74 73 bs bm true [] sub ab col dd k0 k1 k2 k3 k5 newId)) (he:h.get? e = some o) (hc:o.cls = .ref 74) (hq:Q true ⟨h,g,d,t,os⟩):PySem.wpAny M A (isInstance (.ref e) (.ref 74)) Q E ⟨h,g,d,t,os⟩:=by
 have hcC:(Value.ref 74 :: bm).contains (.ref 74) = true:=by simp
 unfold isInstance
 repeat (first | (with_reducible refine wpAny_loadPart_at he ?_;rw [hc]) | (with_reducible refine wpAny_isSubtype_exc hC ?_;rw [hcC]) | wp_step)
 exact hq
theorem Znq {w:World} {A:Around} {h₀:Heap} {s:Shared} {y:Value} {E:Value → Shared → Prop} {Q:Value → Shared → Prop} (G:Glob w h₀) (k0:∀ b o,h₀.get? b = some o → s.heap.get? b = some o) (hdep:A.depth + 3 < recursionLimit)
  (hq:∀ h' tk e t dd,(∀ b ob,s.heap.get? b = some ob → h'.get? b = some ob) → s.heap.get? e = none → h'.get? e = some { cls:=.ref 74,dict:=some dd,data:=ZkX t } → Q (.ref e) { s with heap:=h',toks:=tk }) :
  wpAny (model pw w) A (call (.ref 74) [y]) Q E s:=by
 obtain ⟨nm,q,bs,sub,ab,col,dd,k1,k2,k3,k4,k5,hC₀⟩:=G.exc
 obtain ⟨mN,hN,hNi,hNf⟩:=G.excNs
 obtain ⟨of,hF,hFc⟩:=G.excFn
 obtain ⟨h,g,d,t,os⟩:=s
 have hC:=k0 _ _ hC₀
 have f1:=tc_lookup
 have f2:=PySem.tc_bind (.ref 74)
 have hT:(⟨h,g,d,t,os⟩:Shared).TypeIs (.ref 74) "type":=⟨_,hC,rfl⟩
 have F:=PySem.F.excBase_Exception
 refine wpAny_call (codeAny_of_tree rfl (up ?_))
 show PySem.wpAny _ _ (callAny (.ref 74) _) _ _ _
 repeat (any_goals (first | assumption | with_reducible refine wpAny_loadPart_at hC ?_ | wp_step))
 refine ⟨rfl,?_⟩
 refine ZO ZjV (Code.quiet_builtin _ (by decide +kernel)) entry_typeCall (up (wpAny_check_type_call_sub hC ?_))
 unfold Builtin.«type.__call__»
 dsimp only
 refine Zbu rfl ?_
 refine wpAny_bind (up (wpAny_mroOf_exc hC ?_))
 refine Zbu rfl ?_
 refine wpAny_bind (up (wpAny_madeBy_exc hC ?_))
 dsimp only
 refine wpAny_bind (wpAny_pure ?_)
 refine wpAny_bind (wpAny_holding (wpAny_call (upc (codeAny_call_builtin_code (Code.quiet_builtin _ F.quiet) (wpAny_check_new_sub F hC (codeAny_exc_new_sub F hC ?_ (by rw [sizeLine_eq];simp)))))))
 dsimp only
 have hC₁:=Heap.get?_push_of_some { cls:=.ref 74,data:=.fields #[.ref h.objs.size,.none,.none,.none,.bool false,.none] }
  (Heap.get?_push_of_some { cls:=.type "tuple",data:=.seq [y].toArray } hC)
 have kp:∀ b o,h.get? b = some o → ((h.push { cls:=.type "tuple",data:=.seq [y].toArray }).push { cls:=.ref 74,data:=.fields #[.ref h.objs.size,.none,.none,.none,.bool false,.none] }).get? b = some o :=
  fun b o e => Heap.get?_push_of_some _ (Heap.get?_push_of_some _ e)
 have hget:((h.push { cls:=.type "tuple",data:=.seq [y].toArray }).push
   { cls:=.ref 74,data:=.fields #[.ref h.objs.size,.none,.none,.none,.bool false,.none] }).get? (h.objs.size + 1) = some
   { cls:=.ref 74,data:=.fields #[.ref h.objs.size,.none,.none,.none,.bool false,.none] }:=by
  have:=Heap.get?_push_size (h.push { cls:=.type "tuple",data:=.seq [y].toArray }) (o:={ cls:=.ref 74,data:=.fields #[.ref h.objs.size,.none,.none,.none,.bool false,.none] }) rfl
  rwa [Heap.size_push] at this
 show wpAny (model pw w) _ _ _ _ ⟨(h.push { cls:=.type "tuple",data:=.seq [y].toArray }).push { cls:=.ref 74,data:=.fields #[.ref h.objs.size,.none,.none,.none,.bool false,.none] },g,d,t,os⟩
 generalize hh:(h.push { cls:=.type "tuple",data:=.seq [y].toArray }).push { cls:=.ref 74,data:=.fields #[.ref h.objs.size,.none,.none,.none,.bool false,.none] } = h' at hC₁ kp hget ⊢
 have hn:h.get? (h.objs.size + 1) = none:=Heap.get?_none_of_le (Nat.le_succ _)
 generalize h.objs.size + 1 = e at hget hn ⊢
 refine wpAny_bind (up (Zkk hC₁ hget rfl ?_))
 refine Zbu rfl ?_
 refine wpAny_bind (wpAny_holding ?_)
 unfold callSpecial? specialOf
 have t1:Looks (model pw w) h' (typeOf (.ref e)) (.ref 74):=(Looks.ld hget).andThen .now
 refine wpAny_bind (wpAny_bind (up (t1.at ?_)))
 refine up (wpAny_typeLookup_exc hC₁ ((hN.keeps k0).keeps kp) F.mroIs F.init.lookup ?_)
 rw [hNi]
 dsimp only
 refine wpAny_holding ?_
 have b1:Looks (model pw w) h' (bindSpecial (.ref 71) (.ref e)) (.ref 71,[.ref e]):=by
  unfold bindSpecial
  refine Looks.andThen (a:=.type "function") ((Looks.ld (kp _ _ (k0 _ _ hF))).andThen ?_) (Looks.of_pure (by kernel_rfl))
  rw [hFc]
  exact .now
 refine wpAny_bind (up (b1.at ?_))
 dsimp only
 have he0:h₀.get? e = none:=Zax k0 hn
 have wgt:(Code.builtin "type.__call__" ⟨[.ref 74,y],[]⟩).weight = 1:=by kernel_rfl
 refine wpAny_bind (wpAny_call (Znp (s:=⟨h',g,d,t,os⟩) G (fun b o z => kp _ _ (k0 _ _ z)) ?_ hget rfl rfl ⟨_,rfl⟩ he0 fun h₂ tk dd hk h2 => ?_))
 ·show A.depth + Code.weight (Code.builtin "type.__call__" ⟨[.ref 74,y],[]⟩) < recursionLimit
  rw [wgt];omega
 refine wpAny_pure ?_
 dsimp only
 refine Zbu rfl (wpAny_pure ?_)
 exact hq h₂ tk e _ dd (fun b ob z => hk b ob (fun q => by subst q;rw [hn] at z;cases z) (kp _ _ z)) hn h2
noncomputable def OutOk (h₀:Heap) (P:Z2):List Env → Prop
 | [] => True
 | env :: rest => env.scope.kind ≠ .module ∧ (∃ L o,env.frame = some L ∧ h₀.get? L = none ∧ P L = some o ∧ ∀ vs,o.data ≠ .fields vs) ∧ OutOk h₀ P rest
theorem OutOk.mono {h₀:Heap} {P P':Z2} (le:FrzLe P P') {l:List Env} (h:OutOk h₀ P l):OutOk h₀ P' l:=by
 induction l with
 | nil => trivial
 | cons env l ih =>
  obtain ⟨a,⟨L,o,b,c,d,e⟩,r⟩:=h
  exact ⟨a,⟨L,o,b,c,le _ _ d,e⟩,ih r⟩
theorem OutOk.funs {h₀ h:Heap} {P:Z2} (k:∀ b o,P b = some o → h.get? b = some o) {l:List Env} (x:OutOk h₀ P l):h.FunFrames h₀ l:=by
 induction l with
 | nil => trivial
 | cons env l ih =>
  obtain ⟨a,⟨L,o,b,c,d,e⟩,r⟩:=x
  exact ⟨a,⟨L,o,b,c,k _ _ d,e⟩,ih r⟩
structure Fy (h₀:Heap) (A:Around) (env:Env) (P:Z2) (out:List Env):Prop where
 frames:A.frames = some (env :: out)
 kind:env.scope.kind ≠ .module
 frame:env.frame = some env.locals
 out:OutOk h₀ P out
theorem Fy.mono {h₀ A env P P' out} (Y:Fy h₀ A env P out) (le:FrzLe P P'):Fy h₀ A env P' out:=⟨Y.frames,Y.kind,Y.frame,Y.out.mono le⟩
theorem St.noL {h₀ L N ρ ι P σ h} (S:St h₀ L N ρ ι P σ h):h₀.get? L = none:=Zax S.base S.sep.PL
theorem Fy.funs {h₀ A env P out N ρ ι σ h} (Y:Fy h₀ A env P out) (S:St h₀ env.locals N ρ ι P σ h):h.FunFrames h₀ (env :: out):=by
 obtain ⟨m,⟨oL,es,ep,hL,hLd,_⟩,_⟩:=S.ns
 exact ⟨Y.kind,⟨env.locals,oL,Y.frame,S.noL,hL,fun vs q => by rw [hLd] at q;cases q⟩,Y.out.funs S.keep⟩
noncomputable def Up (h₀:Heap) (l:List Env) (e:Value) (h:Heap):Prop:=∃ a a0,e = .ref a ∧
 ((h₀.StaysIn h ∧ h₀.get? a = none ∧ h.FunFrames h₀ l ∧ ∃ o vs,h.get? a = some o ∧ o.cls = .ref 74 ∧ o.data = .fields vs ∧ vs[1]? = some .none ∧ vs[0]? = some a0) ∨
 Heap.FlyingW h₀ l a (.ref 74) a0 h ∨ ∃ L,l.head?.bind (·.frame) = some L ∧ Heap.HeldW h₀ l a (.ref 74) a0 L h)
section
variable {M:Model} {A:Around} {E:Value → Shared → Prop} {s:Shared} {h₀:Heap} {env:Env} {out:List Env} {L:Addr} {e:Value}
theorem ZlK {Q:Unit → Shared → Prop} (hfr:A.frames = some (env :: out)) (hf:env.frame = some L) (hu:Up h₀ (env :: out) e s.heap) (hQ:∀ h',Up h₀ out e h' → Q () { s with heap:=h' }):PySem.wpAny M A (leaving env e) Q E s:=by
 obtain ⟨a,a0,rfl,⟨st,hn,fs,o,vs,ho,hc,hd,h1,h0⟩ | hfl | ⟨L',hL',hh⟩⟩:=hu
 ·refine wpAny_leaving_firstW hfr fs hf ho st hn hd h1 h0 fun h' hL => ?_
  obtain ⟨k1,⟨_,_,k2⟩,k3,k4⟩:=hL
  exact hQ h' ⟨a,a0,rfl,.inr (.inl ⟨k1,hn,k2,by rw [← hc];exact k3⟩)⟩
 ·exact wpAny_leaves_onW hfr hf hfl fun h' x1 _ => hQ h' ⟨a,a0,rfl,.inr (.inl x1)⟩
 ·have:env.frame = some L':=hL'
  exact wpAny_leaves_heldW this hh fun h' x1 => hQ h' ⟨a,a0,rfl,.inr (.inl x1)⟩
theorem Zji {Q:Unit → Shared → Prop} (hfr:A.frames = some (env :: out)) (hf:env.frame = some L) (hu:Up h₀ (env :: out) e s.heap) (hQ:∀ h' a a0,e = .ref a → Heap.HeldW h₀ (env :: out) a (.ref 74) a0 L h' → Q () { s with heap:=h' }):PySem.wpAny M A (noteFrame e env) Q E s:=by
 obtain ⟨a,a0,rfl,⟨st,hn,fs,o,vs,ho,hc,hd,h1,h0⟩ | hfl | ⟨L',hL',hh⟩⟩:=hu
 ·unfold noteFrame
  simp only [hf]
  refine PySem.wpAny_bind (wpAny_field ho hd h1 ?_)
  rw [if_neg (by decide)]
  refine wpAny_entryW hfr fs hf ho st hn hd (Array.getElem?_eq_some_iff.mp h1).1 h0 fun h' hN => ?_
  obtain ⟨k1,k2,k3,k4⟩:=hN
  exact hQ h' a a0 rfl ⟨k1,hn,k2,by rw [← hc];exact k3⟩
 ·exact wpAny_looks_onW hfr hf hfl fun h' x1 _ => hQ h' a a0 rfl x1
 ·have:L' = L:=Option.some.inj (hL'.symm.trans hf)
  subst this
  exact wpAny_noteFrame_againW hf hh.2.2.2 (hQ s.heap a a0 rfl hh)
theorem ZlL {l:List Env} {a:Addr} {a0:Value} {Q:Unit → Shared → Prop} (hh:Heap.HeldW h₀ l a (.ref 74) a0 L s.heap) (hQ:∀ h',Heap.HeldW h₀ l a (.ref 74) a0 L h' → Q () { s with heap:=h' }) :
  PySem.wpAny M A (do
   if (← field (.ref a) 1) == .none then unsupported "frame.own-activation:exception-without-traceback"
   setFlight (.ref a) (some L)) Q E s:=by
 obtain ⟨hkb,hen,hl,oe,vs,T,oT,ts,he,hcls,hd,h1,hnT,hTe,hT,hdT,h3⟩:=hh
 have hsz3:3 < ts.size:=(Array.getElem?_eq_some_iff.mp h3).1
 have other:∀ b,b ≠ T → (s.heap.update T (Obj.mapFields (·.setIfInBounds 3 ((some L).elim Value.none fun f => rawInt f)))).get? b = s.heap.get? b:=fun b hb => Heap.get?_update_other _ _ (Ne.symm hb)
 refine PySem.wpAny_bind (wpAny_field he hd h1 ?_)
 rw [if_neg (show ¬ ((Value.ref T == Value.none) = true) from by simp)]
 unfold setFlight
 refine PySem.wpAny_bind (wpAny_field he hd h1 ?_)
 rw [if_pos (show (Value.ref T != Value.none) = true from by simp)]
 refine wpAny_setField hT hdT hsz3 (hQ _ ⟨fun b o hbo => (other b fun q => by rw [q,hnT] at hbo;cases hbo).trans (hkb b o hbo),hen,
  hl.of_keeps fun b o hb hnf => ⟨o,(other b fun q => ?_).trans hb,rfl⟩,?_⟩)
 ·rw [q,hT] at hb;cases hb;exact hnf ts hdT
 ·exact ⟨oe,vs,T,_,_,(other a (Ne.symm hTe)).trans he,hcls,hd,h1,hnT,hTe,Heap.get?_update_self _ hT (Obj.isFreed_of_fields (Obj.data_mapFields hdT _)),Obj.data_mapFields hdT _,by simp [hsz3]⟩
theorem ZoL (hfr:A.frames = some (env :: out)) (hf:env.frame = some L) (hu:Up h₀ (env :: out) e s.heap) (hE:∀ h',Up h₀ (env :: out) e h' → E e { s with heap:=h' }) :
  notedBy M A env (fun e s' => cameBackBy M A env E e s') e s:=by
 unfold notedBy
 refine Zji hfr hf hu fun h' a a0 ea hh => ?_
 subst ea
 unfold cameBackBy
 rw [hf]
 exact ZlL hh fun h'' h2 => hE h'' ⟨a,a0,rfl,.inr (.inr ⟨L,hf,h2⟩)⟩
end
noncomputable abbrev Raises (h₀:Heap) (l:List Env) (E:Value → Shared → Prop) (s:Shared):Prop:=∀ x h' tk,Up h₀ l x h' → E x { s with heap:=h',toks:=tk }
theorem Raises.up {h₀ l E} {s:Shared} {g:Heap} {t:Nat} (k:Raises h₀ l E s):Raises h₀ l E { s with heap:=g,toks:=t }:=fun x h' tk u => k x h' tk u
noncomputable def RE (sc:Scope) (d:Nat) (e:ME) (ρ:List (Option V)) (σ:List AO):Prop :=
 ∀ w h₀ A env pe ι P s E out,Fx w h₀ A env sc d → Fy h₀ A env P out → CE sc pe e → St h₀ env.locals (Zs sc) ρ ι P σ s.heap → Raises h₀ (env :: out) E s → ∀ Q,wpAny (model pw w) A (eval pe env) Q E s
noncomputable def REs (sc:Scope) (d:Nat) (e:List ME) (ρ:List (Option V)) (σ:List AO):Prop :=
 ∀ w h₀ A env pe ι P s E out pos,Fx w h₀ A env sc d → Fy h₀ A env P out → CEs sc pe e → St h₀ env.locals (Zs sc) ρ ι P σ s.heap → Raises h₀ (env :: out) E s → ∀ Q,wpAny (model pw w) A (spliced (backTo pos (starEach pe env))) Q E s
noncomputable def RS (sc:Scope) (d:Nat) (m:MS) (ρ:List (Option V)) (σ:List AO):Prop :=
 ∀ w h₀ A env pe ι P s E out,Fx w h₀ A env sc d → Fy h₀ A env P out → CS sc pe m → St h₀ env.locals (Zs sc) ρ ι P σ s.heap → Raises h₀ (env :: out) E s → ∀ Q,wpAny (model pw w) A (exec pe env) Q E s
noncomputable def RSs (sc:Scope) (d:Nat) (m:List MS) (ρ:List (Option V)) (σ:List AO):Prop :=
 ∀ w h₀ A env pe ι P s E out,Fx w h₀ A env sc d → Fy h₀ A env P out → CSs sc pe m → St h₀ env.locals (Zs sc) ρ ι P σ s.heap → Raises h₀ (env :: out) E s → ∀ Q,wpAny (model pw w) A (execs pe env) Q E s
noncomputable def ROp (d:Nat) (f:List Value → Sem Value) (as:List V) (σ:List AO):Prop :=
 ∀ (c:Cx) ι P s xs env out,Rm c.w c.h₀ c.A d → Fy c.h₀ c.A env P out → env.locals = c.L → c.St ι P σ s.heap → VRs ι P as xs → Raises c.h₀ (env :: out) c.E s → ∀ Q,wpAny (model pw c.w) c.A (f xs) Q c.E s
section
variable {sc:Scope} {d:Nat} {ρ ρ₁:List (Option V)} {σ σ₁ σ₂:List AO}
theorem ROp.more {d':Nat} {f:List Value → Sem Value} {as:List V} (h:ROp d f as σ) (hd:d ≤ d':=by decide):ROp d' f as σ:=by
 intro c ι P s xs env out R
 exact h c ι P s xs env out ⟨R.gl,by have:=R.depth;omega,by have:=R.units;omega,R.hand⟩
theorem RSs.stop {m:MS} {ms:List MS} (h:RS sc d m ρ σ):RSs sc d (m :: ms) ρ σ:=by
 intro w h₀ A env pe ι P s E out F Y C S k Q
 obtain ⟨_,_,rfl,c1,c2⟩:=C
 exact wpAny_execs_cons (h w h₀ A env _ ι P s E out F Y c1 S k _)
theorem RSs.cons {m:MS} {ms:List MS} (h1:TS sc d m ρ σ (.next ρ₁) σ₁) (h2:RSs sc d ms ρ₁ σ₁):RSs sc d (m :: ms) ρ σ:=by
 intro w h₀ A env pe ι P s E out F Y C S k Q
 obtain ⟨_,_,rfl,c1,c2⟩:=C
 refine wpAny_execs_cons (h1 w h₀ A env _ ι P s E F c1 S _ ?_)
 intro ι₁ P₁ g₁ t₁ i₁ p₁ S₁ f hf
 obtain rfl:=hf.next'
 exact h2 w h₀ A env _ ι₁ P₁ { s with heap:=g₁,toks:=t₁ } E out F (Y.mono p₁) c2 S₁ k.up _
theorem RS.if_t {c:ME} {a b:List MS} (h1:TB sc d c ρ σ true σ₁) (h2:RSs sc d a ρ σ₁):RS sc d (.ife c a b) ρ σ:=by
 intro w h₀ A env pe ι P s E out F Y C S k Q
 obtain ⟨_,_,_,_,rfl,c0,c1,c2⟩:=C
 refine Zde (h1 w h₀ A env _ ι P s E F c0 S _ ?_)
 intro ι₁ P₁ g₁ t₁ i₁ p₁ S₁
 rw [if_pos rfl]
 exact h2 w h₀ A env _ ι₁ P₁ _ E out F (Y.mono p₁) c1 S₁ k.up _
theorem RS.if_f {c:ME} {a b:List MS} (h1:TB sc d c ρ σ false σ₁) (h2:RSs sc d b ρ σ₁):RS sc d (.ife c a b) ρ σ:=by
 intro w h₀ A env pe ι P s E out F Y C S k Q
 obtain ⟨_,_,_,_,rfl,c0,c1,c2⟩:=C
 refine Zde (h1 w h₀ A env _ ι P s E F c0 S _ ?_)
 intro ι₁ P₁ g₁ t₁ i₁ p₁ S₁
 rw [if_neg (by decide)]
 exact h2 w h₀ A env _ ι₁ P₁ _ E out F (Y.mono p₁) c2 S₁ k.up _
theorem RS.ret {e:ME} (h1:RE sc d e ρ σ):RS sc d (.ret (some e)) ρ σ:=by
 intro w h₀ A env pe ι P s E out F Y C S k Q
 obtain ⟨_,_,rfl,c1⟩:=C
 exact wpAny_Return_some (h1 w h₀ A env _ ι P s E out F Y c1 S k _)
theorem RS.expr {e:ME} (h1:RE sc d e ρ σ):RS sc d (.expr e) ρ σ:=by
 intro w h₀ A env pe ι P s E out F Y C S k Q
 obtain ⟨_,_,rfl,c1,c2⟩:=C
 refine Zdg (h1 w h₀ A env _ ι P s E out F Y c1 S k _) ?_ ?_
 ·unfold interactive
  rw [F.scope,F.kind]
  rfl
 ·exact ZkM c2
theorem REs.one {e:ME} (h1:RE sc d e ρ σ):REs sc d [e] ρ σ:=by
 intro w h₀ A env pe ι P s E out pos F Y C S k Q
 obtain ⟨_,_,rfl,c1,c2⟩:=C
 exact Zbd (h1 w h₀ A env _ ι P s E out F Y c1 S k _) (Zce c1)
theorem RE.bin_l {op:Operator} {a b:ME} (h1:RE sc d a ρ σ):RE sc d (.bin op a b) ρ σ:=by
 intro w h₀ A env pe ι P s E out F Y C S k Q
 obtain ⟨_,_,_,rfl,c1,c2⟩:=C
 exact Zfr (h1 w h₀ A env _ ι P s E out F Y c1 S k _)
theorem RE.def_arg {f:Nat} {as:List ME} {fv:Value} (hg:GV[f]? = some (.ext fv)) (h1:REs sc d as ρ σ):RE sc d (.call f as) ρ σ:=by
 intro w h₀ A env pe ι P s E out F Y C S k Q
 obtain ⟨_,_,_,_,rfl,c1,c2,c3,c4,c5⟩:=C
 refine ZaO rfl (wpAny_Name (Zbe F S (ZcN c1 hg) c2 hg fun x hx => ?_) c3)
 obtain rfl:=hx.ext'
 unfold callWith
 exact wpAny_bind (wpAny_holding (ZcJ c4 (h1 w h₀ A env _ ι P s E out _ F Y c4 S k _)))
theorem RE.def {f a n:Nat} {sc':Scope} {ms:List MS} {as:List ME} {vs:List V} (hg:GV[f]? = some (.ext (.ref a))) (hc:Zc a sc' n ms) (h1:TEs sc d as ρ σ vs σ₁) (h2:ROp d (Fn (.ref a)) vs σ₁):RE sc d (.call f as) ρ σ:=by
 intro w h₀ A env pe ι P s E out F Y C S k Q
 obtain ⟨_,_,_,h3,h4,_⟩:=hc
 obtain ⟨_,_,_,_,rfl,c1,c2,c3,c4,c5⟩:=C
 refine ZaO rfl (wpAny_Name (Zbe F S (ZcN c1 hg) c2 hg fun x hx => ?_) c3)
 obtain rfl:=hx.ext'
 refine ZL c4 c5 (ZeE F.gl h3 h4) (.inl rfl) (h1 w h₀ A env _ ι P s E _ F c4 S _ ?_)
 intro ι₁ P₁ g₁ t₁ i₁ p₁ S₁ xs hxs
 refine ⟨S₁.keep0,?_⟩
 exact h2 (cx w h₀ A env sc ρ E) ι₁ P₁ { s with heap:=g₁,toks:=t₁ } xs env out F.toRm (Y.mono p₁) rfl S₁ hxs k.up _
end
theorem Zkl {M:Model} {A:Around} {E:Value → Shared → Prop} {env:Env} {s:Shared} {nm q:Str} {bs bm sub:List Value} {ab:Bool} {col:Option Bool} {dd:Option Addr} {k0 k1 k2 k3 k5:Option Value} {newId:String} {x:Sem Value} {Q:Flow → Shared → Prop} (hbase:bm.contains (.type "BaseException") = true) (hh:A.handled = none)
  (h:wpAny M A x (fun v s₁ => ∃ e dc t,v = .ref e ∧ s₁.heap.get? 74 = some (excClassObj nm q 74 73 bs bm true [] sub ab col dd k0 k1 k2 k3 k5 newId) ∧
   s₁.heap.get? e = some { cls:=.ref 74,dict:=dc,data:=ZkX t } ∧ E (.ref e) s₁) E s) :
  wpAny M A (raiseStmt env (some x) none) Q E s:=by
 have hcB:(Value.ref 74 :: bm).contains (.type "BaseException") = true:=by rw [List.contains_cons,hbase,Bool.or_true]
 unfold raiseStmt
 refine wpAny_bind (wpAny_mono h (fun v s₁ h₁ => up ?_) fun _ _ x => x)
 obtain ⟨e,dc,t,rfl,hC,he,hE⟩:=h₁
 obtain ⟨hp,g,d,tk,os⟩:=s₁
 repeat (first | with_reducible refine wpAny_loadPart_at he ?_ | with_reducible refine wpAny_loadPart_at hC ?_ | (with_reducible refine wpAny_isSubtype_exc hC ?_;rw [hcB]) | wp_step)
 exact wpAny_raiseNew_none hh hE
section
variable {sc:Scope} {d:Nat} {ρ ρ₁:List (Option V)} {σ σ₁ σ₂:List AO}
theorem RS.raise {e:ME} {v:V} (h1:TE sc d e ρ σ v σ₁):RS sc d (.raise (.call 17 [e])) ρ σ:=by
 intro w h₀ A env pe ι P s E out F Y C S k Q
 obtain ⟨nm,q,bs,sub,ab,col,dd,k1,k2,k3,k4,k5,hC₀⟩:=F.gl.exc
 obtain ⟨_,_,rfl,c0⟩:=C
 rename_i pe' pp
 show wpAny _ _ (do standAt pp;raiseStmt env (some (do let v ← eval pe' env;standAt pp;pure v)) none) _ _ _
 refine wpAny_bind (wpAny_standAt (Zkl (nm:=nm) (q:=q) (bs:=bs) (bm:=[.type "Exception",.type "BaseException",.type "object"]) (sub:=sub) (ab:=ab) (col:=col) (dd:=dd) (k0:=k1) (k1:=k2) (k2:=k3) (k3:=k4) (k5:=k5) (newId:="Exception.__new__") (by decide) F.hand ?_))
 refine wpAny_bind ?_
 obtain ⟨_,_,_,_,rfl,c1,c2,c3,c4,c5⟩:=c0
 refine ZaO rfl (wpAny_Name (Zbe (i:=17) F S (ZcN c1 rfl) c2 rfl fun x hx => ?_) c3)
 obtain rfl:=hx.ext'
 have hkp:Looks (model pw w) h₀ (keeperOf (.ref 74)) .machine:=by
  intro A Q E s kk hq
  obtain ⟨hp,g,d,t,os⟩:=s
  exact wpAny_keeperOf_exc (kk _ _ hC₀) hq
 refine ZL c4 c5 hkp (.inr rfl) (TEs.cons h1 TEs.nil w h₀ A env _ ι P s E _ F c4 S _ ?_)
 intro ι₁ P₁ g₁ t₁ i₁ p₁ S₁ xs hxs
 refine ⟨S₁.keep0,?_⟩
 obtain ⟨y,rfl,hy⟩:=hxs.inv1
 have hdep:=F.depth
 refine Znq (s:={ s with heap:=g₁,toks:=t₁ }) F.gl S₁.keep0 (by omega) fun h' tk e t dd hk he h' => ?_
 refine wpAny_bind (wpAny_standAt (wpAny_pure ?_))
 have he0:h₀.get? e = none:=Zax S₁.keep0 he
 refine ⟨e,_,t,rfl,hk _ _ (S₁.keep0 _ _ hC₀),h',k _ _ tk ⟨e,.ref t,rfl,.inl ⟨fun b o z => hk _ _ (S₁.keep0 _ _ z),he0,?_,_,_,h',rfl,rfl,rfl,rfl⟩⟩⟩
 exact ((Y.mono p₁).funs S₁).of_keeps fun b o z _ => ⟨o,hk _ _ z,rfl⟩
theorem ZgD {a:Addr} {n k:Nat} {ms:List MS} {vs:List V} (hc:Zc a sc n ms) (hn:vs.length = n) (hρ:ρ = vs.map some ++ List.replicate k none)
  {c:Cx} {ι:Ix} {P:Z2} {s:Shared} {xs:List Value} {envc:Env} {out:List Env} {RR:Result → Shared → Prop} (R:Rm c.w c.h₀ c.A (d + 1)) (Y:Fy c.h₀ c.A envc P out) (hL:envc.locals = c.L) (S:c.St ι P σ s.heap) (hx:VRs ι P vs xs)
  (hb:∀ env' P' h₁ tk body,Fx c.w c.h₀ (c.A.deeper env') env' sc d → Fy c.h₀ (c.A.deeper env') env' P' (envc :: out) → CSs sc body ms → St c.h₀ env'.locals (Zs sc) ρ ι P' σ h₁ →
   wpAny (model pw c.w) (c.A.deeper env') (execs body env') (fun f s' => RR (.ok (.ret (match f with | .ret v => v | _ => .none))) s')
    (fun e s' => PySem.wpAny (model pw c.w) (c.A.deeper env') (leaving env' e) (fun _ s'' => RR (.error e) s'') (fun e' s'' => RR (.error e') s'') s') { s with heap:=h₁,toks:=tk }) :
  codeAny (model pw c.w) c.A (.call (.ref a) ⟨xs,[]⟩) RR s:=by
 obtain ⟨i,j,fi,hft,hfi,hok,hoa,hlen,hsc,hcs⟩:=hc
 obtain ⟨o1,o2,o3,o4,o5,o6,o7⟩:=Zbh hok
 obtain ⟨pm,cdv,oc,osl,hat,hcd⟩:=(R.gl.fn a i j fi hft hfi).keeps S.keep0
 have hnd:(fi.args.args.map (·.arg)).Nodup:=by
  rw [← o6]
  exact List.Sublist.nodup (List.take_sublist _ _) o5
 have hxl:fi.args.args.length = xs.length:=by rw [hlen,← hn,hx.length]
 have hnl:(fi.args.args.map (·.arg)).length = xs.length:=by rw [List.length_map];exact hxl
 have hbind:=Zbg (name:=fi.name) (qual:=fi.qual) (body:=fi.body) (scope:=fi.scope) (pm:=pm) (cdv:=cdv) hoa hxl hnd
 subst hsc
 have h1:=R.depth
 have h2:=R.units
 refine Zaw (fd:=fnOf fi.name fi.qual fi.args fi.body fi.scope .none .none .none pm none cdv .none) (body:=fi.body) (binds:=(fi.args.args.map (·.arg)).zip xs)
  (by omega) hat rfl (R.gl.lim.keeps S.keep0) hcd rfl (BindsTo.of_eq hbind) o4 (fun y hy => o7 _ (List.of_mem_zip hy).1) (fun h₁ hns k₁ => ?_) o2 o3 o1
 obtain ⟨m,⟨oL,es,ep,hL',hLd,hLr⟩,hval⟩:=S.ns
 have hL0:c.h₀.get? c.L = none:=S.noL
 have leL:FrzLe P (frz P c.L oL):=fun b o e => by
  unfold frz
  rw [if_neg]
  ·exact e
  ·intro q;subst q;rw [S.sep.PL] at e;cases e
 have fL:frz P c.L oL c.L = some oL:=if_pos rfl
 have hne:s.heap.objs.size ≠ c.L:=(Nat.ne_of_lt S.ltL).symm
 have hPn:frz P c.L oL s.heap.objs.size = none:=by
  show (if s.heap.objs.size = c.L then _ else _) = _
  rw [if_neg hne];exact S.freshP
 have S':St c.h₀ s.heap.objs.size (Zs fi.scope) ρ ι (frz P c.L oL) σ h₁:=by
  refine ⟨fun b o e => leL _ _ (S.base b o e),fun b o e => ?_,⟨_,hns,fun i' n' v' e1 e2 => ?_⟩,S.len,fun k' ao x y e1 e2 => (S.objs k' ao x y e1 e2).same (List.prefix_refl _) leL (fun _ e => k₁ _ _ e) (fun _ e => k₁ _ _ e),hPn,fun k' x y e => ?_,S.sep.apart⟩
  ·unfold frz at e
   split at e
   ·rename_i q;subst q;cases e;exact k₁ _ _ hL'
   ·exact k₁ _ _ (S.keep _ _ e)
  ·subst hρ
   have hi':i' < vs.length:=by
    rcases Nat.lt_or_ge i' vs.length with q | q
    ·exact q
    ·rw [List.getElem?_append_right (by simpa using q)] at e2
     rw [List.getElem?_replicate] at e2
     split at e2 <;> cases e2
   rw [List.getElem?_append_left (by simpa using hi'),List.getElem?_map] at e2
   have e3:vs[i']? = some v':=by
    cases q:vs[i']? with
    | none => rw [q] at e2;cases e2
    | some z => rw [q] at e2;simp at e2;subst e2;rfl
   obtain ⟨x,hx',hr⟩:=hx.get e3
   refine ⟨x,ZcL hnl hnd (ZfX o6 (by rw [hlen,← hn];exact hi') e1) hx',hr.mono (List.prefix_refl _) leL⟩
  ·obtain ⟨q1,q2,q3,q4⟩:=S.sep.off k' x y e
   obtain ⟨l1,l2⟩:=S.freshI e
   refine ⟨?_,?_,Nat.ne_of_lt l1,Nat.ne_of_lt l2⟩
   ·show (if x = c.L then _ else _) = _
    rw [if_neg q3];exact q1
   ·show (if y = c.L then _ else _) = _
    rw [if_neg q4];exact q2
 have FX:Fx c.w c.h₀ (c.A.deeper (callEnv (fnOf fi.name fi.qual fi.args fi.body fi.scope .none .none .none pm none cdv .none) s.heap.objs.size a)) (callEnv (fnOf fi.name fi.qual fi.args fi.body fi.scope .none .none .none pm none cdv .none) s.heap.objs.size a) fi.scope d:=by
  refine ⟨⟨R.gl,?_,?_,R.hand⟩,rfl,o1,o5,rfl,rfl⟩
  ·show c.A.depth + 1 + 2 * d + 4 ≤ _
   omega
  ·show c.A.units + 3 + 8 * d + 70 ≤ _
   omega
 have FY:Fy c.h₀ (c.A.deeper (callEnv (fnOf fi.name fi.qual fi.args fi.body fi.scope .none .none .none pm none cdv .none) s.heap.objs.size a)) (callEnv (fnOf fi.name fi.qual fi.args fi.body fi.scope .none .none .none pm none cdv .none) s.heap.objs.size a) (frz P c.L oL) (envc :: out):=by
  refine ⟨Around.frames_deeper Y.frames,?_,rfl,Y.kind,⟨c.L,oL,by rw [Y.frame,hL],hL0,fL,fun vs q => by rw [hLd] at q;cases q⟩,Y.out.mono leL⟩
  show fi.scope.kind ≠ .module
  rw [o1];decide
 exact hb _ _ _ _ _ FX FY hcs S'
theorem ZcH {a:Addr} {n k:Nat} {ms:List MS} {vs:List V} (hc:Zc a sc n ms) (hn:vs.length = n) (hρ:ρ = vs.map some ++ List.replicate k none) (hb:RSs sc d ms ρ σ):ROp (d + 1) (Fn (.ref a)) vs σ:=by
 intro c ι P s xs envc out R Y hL S hx kk Q
 refine wpAny_call (ZgD hc hn hρ R Y hL S hx fun env' P' h₁ tk body FX FY C S' => ?_)
 refine hb c.w c.h₀ _ _ _ ι P' { s with heap:=h₁,toks:=tk } _ (envc :: out) FX FY C S' (fun x h' tk u => ?_) _
 exact ZlK (s:={ s with heap:=h',toks:=tk }) FY.frames FY.frame u fun h'' u' => kk x h'' tk u'
end
structure ArgsAt (σ:List AO) (kA:Nat) (vs:List V) (w:Nat):Prop where
 ex:∃ u kL fs,σ[kA]? = some (.inst 351 [(13,u),(14,.ref kL)]) ∧ IsL σ u vs ∧ (∀ x,u ≠ .ext x) ∧ σ[kL]? = some (.inst 53 fs) ∧ Zbw 0 fs = some (.int w)
 bits:Bits w
 len:vs.length ≤ 1000
 lt:∀ y ∈ vs,V.lt σ.length y
theorem IsL.app {σ g:List AO} {u:V} {vs:List V} (h:IsL σ u vs):IsL (σ ++ g) u vs:=by
 cases u with
 | ref k =>
  have h':σ[k]? = some (.list vs):=h
  show (σ ++ g)[k]? = some (.list vs)
  rw [List.getElem?_append_left (Zas h')];exact h'
 | _ => exact h
theorem V.lt_app {σ g:List AO} {v:V} (h:V.lt σ.length v):V.lt (σ ++ g).length v:=V.lt_mono (by simp) v h
theorem ArgsAt.app {σ g:List AO} {kA:Nat} {vs:List V} {w:Nat} (h:ArgsAt σ kA vs w):ArgsAt (σ ++ g) kA vs w:=by
 obtain ⟨⟨u,kL,fs,h1,h2,h3,h4,h5⟩,hb,hl,hlt⟩:=h
 exact ⟨⟨u,kL,fs,by rw [List.getElem?_append_left (Zas h1)];exact h1,h2.app,h3,by rw [List.getElem?_append_left (Zas h4)];exact h4,h5⟩,hb,hl,fun y hy => V.lt_app (hlt y hy)⟩
noncomputable def Zcw:V → Prop
 | .int _ => True
 | .none => True
 | .bytes ks => Oct ks ∧ ks.length ≤ 10000 ∧ Zbk ks (Z9 ks (Zz ZG ks 0)).1
 | _ => False
noncomputable def Zb7 (v:V) (w:Nat):V:=match v with
 | .int i => .int i
 | .bytes ks => Zap ks w
 | _ => .none
noncomputable def Ziv:V → Prop
 | .int i => i.natAbs.log2 < 800
 | .bytes ks => ks.length ≤ 10000
 | _ => False
noncomputable def ZeU (v:V):List Int:=match v with
 | .int i => Zac i
 | .bytes ks => ks
 | _ => []
section
variable {sc:Scope} {σ:List AO} {d kA m w:Nat} {vs:List V} {ρ:List (Option V)}
theorem Zkm {n:Nat} {ks:List Int}:V.lt n (Zap ks w):=by unfold Zap;dsimp only;split <;> simp [V.lt]
theorem Zrb {n:Nat} {v:V}:V.lt n (Zb7 v w):=by
 cases v <;> simp only [Zb7] <;> first | exact Zkm | simp [V.lt]
theorem Zjj {v:V} {kL:Nat} {fs:List (Nat × V)} (hv:Zcw v) (hL:σ[kL]? = some (.inst 53 fs)) (hf:Zbw 0 fs = some (.int w)) (hw:Bits w):OpV 5 (Fn (.ref 152)) [v,.ref kL] σ (Zb7 v w) σ:=by
 cases v with
 | int i => exact Zhg
 | none => exact Zgz
 | bytes ks => exact ZfS hv.1 (Nat.le_trans hv.2.1 (by decide)) hL hf hw hv.2.2
 | _ => exact hv.elim
theorem ZhL (hA:ArgsAt σ kA vs w) (hv:Zcw (vs.getD m .none)):TE (Zb 41 (some 2)) 5 (.call 6 [(.callm (.loc 0) 16 [(.loc 1)]),(.attr (.loc 0) 14)]) [some (.ref kA),some (.int ((m:Int) + 2)),none] σ (Zb7 (vs.getD m .none) w) σ:=by
 obtain ⟨⟨u,kL,fs,h1,h2,h3,h4,h5⟩,hb,hl,hlt⟩:=hA
 refine TE.def rfl Zaz (TEs.cons (TE.callm (TE.loc rfl) (Zn (.tail _ (.tail _ (.head _))) (.head _) h1 rfl ZR) (TEs.one (TE.loc rfl)) ((Zjf h1 h2 h3 hl hlt).more (by decide))) (TEs.one ?_)) (Zjj hv h4 h5 hb)
 exact TE.attr (TE.loc rfl) (ZA (.tail _ (.tail _ (.head _))) (by decide) h1 rfl (by simp))
theorem Zkn {i:Int} (hA:ArgsAt σ kA vs w) (hv:Zcw (vs.getD m .none)) (hi:Zb7 (vs.getD m .none) w = .int i):OpV 6 (Fn (.ref 334)) [.ref kA,.int ((m:Int) + 2)] σ (.int i) σ:=by
 have t:=ZhL hA hv
 rw [hi] at t
 refine Zf (k:=1) (g:=[]) Zx rfl rfl ?_ (by simp [V.lt])
 rw [List.append_nil]
 exact TSs.set t (TSs.if_go (TB.isN (p:=.int i) (TE.loc rfl) (by simp)) (TSs.ret (TE.loc rfl)))
theorem Zhl (hA:ArgsAt σ kA vs w) (hv:Zcw (vs.getD m .none)) (hi:Zb7 (vs.getD m .none) w = .none):ROp 6 (Fn (.ref 334)) [.ref kA,.int ((m:Int) + 2)] σ:=by
 have t:=ZhL hA hv
 rw [hi] at t
 refine ZcH (k:=1) Zx rfl rfl ?_
 exact RSs.cons (TS.assign t TA.loc rfl rfl) (RSs.stop (RS.if_t (TB.isN (p:=.none) (TE.loc rfl) (by simp)) (RSs.stop (RS.raise TE.byt))))
theorem refuse_raise {k:Nat} {ks:List Int}:ROp 1 (Fn (.ref 348)) [.ref k,.bytes ks] σ :=
 ZcH (k:=0) ZQ rfl rfl (RSs.stop (RS.raise (TE.loc rfl)))
theorem ZoM (hA:ArgsAt σ kA vs w) (hv:Ziv (vs.getD m .none)):OpV 3 (Fn (.ref 341)) [.ref kA,.int ((m:Int) + 2)] σ (.bytes (ZeU (vs.getD m .none))) σ:=by
 obtain ⟨⟨u,kL,fs,h1,h2,h3,h4,h5⟩,hb,hl,hlt⟩:=hA
 have t0:TE (Zb 41 (some 3)) 2 (.callm (.loc 0) 16 [(.loc 1)]) [some (.ref kA),some (.int ((m:Int) + 2)),none] σ (vs.getD m .none) σ :=
  TE.callm (TE.loc rfl) (Zn (.tail _ (.tail _ (.head _))) (.head _) h1 rfl ZR) (TEs.one (TE.loc rfl)) ((Zjf h1 h2 h3 hl hlt).more (by decide))
 have t:TE (Zb 41 (some 3)) 2 (.call 8 [(.callm (.loc 0) 16 [(.loc 1)])]) [some (.ref kA),some (.int ((m:Int) + 2)),none] σ (.bytes (ZeU (vs.getD m .none))) σ:=by
  refine TE.def rfl ZaZ (TEs.one t0) ?_
  generalize vs.getD m .none = v at hv
  cases v with
  | int i => exact Zjh hv
  | bytes ks => exact Zhk
  | _ => exact hv.elim
 refine Zf (k:=1) (g:=[]) Zat rfl rfl ?_ (by simp [V.lt])
 rw [List.append_nil]
 exact TSs.set t (TSs.if_go (TB.isN (p:=.bytes _) (TE.loc rfl) (by simp)) (TSs.ret (TE.loc rfl)))
end
section
variable {prog:Program} {w:World} {A:Around} {R:Result → Shared → Prop} {I:Addr} {fp wr:List Addr} {G:Array GenState → Array GenState → Prop} {n:Nat} {P:Nat → Value → Prop} {St:Nat → Shared → Prop}
theorem Znr (W:WalksS prog w A.in1 I fp wr G n P St) (pre:Array Value) (hn:pre.size + n ≤ sizeLine) (S:Addr) (hSf:S ∉ fp) (res:Value) :
  ∀ (k i:Nat) (s:Shared) (acc:Array Value) (c:Nat),n - i = k → i ≤ n → St i s → s.heap.get? S = some { cls:=.type "list",dict:=none,data:=.seq (pre ++ acc) c,slots:=#[] } → ItemsOf P acc i →
  (∀ s' acc' c',Moved (S :: wr) G s s' → s'.heap.get? S = some { cls:=.type "list",dict:=none,data:=.seq (pre ++ acc') c',slots:=#[] } → ItemsOf P acc' n → R (.ok (.ret res)) s') →
  PySem.codeAny (model prog w) A (.builtin "list.extend.loop" ⟨[.ref S,.ref I,res],[]⟩) R s:=by
 have hSw:S ∉ wr:=fun h => hSf (W.sub _ h)
 have hsub:∀ b ∈ wr,b ∈ S :: wr:=fun b hb => List.mem_cons_of_mem _ hb
 intro k
 induction k with
 | zero =>
  intro i s acc c hk hi hst hS hacc hR
  have hin:i = n:=by omega
  subst hin
  refine PySem.codeAny_builtin F.entry_extend_loop ?_
  rw [Around.under_plainId F.plain_extend_loop _]
  show PySem.wpAny _ A.in1 (pyNext (.ref I) >>= _) _ _ s
  refine PySem.wpAny_bind (W.done s _ _ hst fun s' hm => ?_)
  exact PySem.wpAny_pure (hR s' acc c (hm.mono hsub) (hm.heap S _ hSw hS) hacc)
 | succ k ih =>
  intro i s acc c hk hi hst hS hacc hR
  have hlt:i < n:=by omega
  refine PySem.codeAny_builtin F.entry_extend_loop ?_
  rw [Around.under_plainId F.plain_extend_loop _]
  show PySem.wpAny _ A.in1 (pyNext (.ref I) >>= _) _ _ s
  refine PySem.wpAny_bind (W.item i s _ _ hlt hst fun v s' hP hst' hm => ?_)
  have hS':=hm.heap S _ hSw hS
  show PySem.wpAny _ A.in1 (updateSeq S (·.push v) >>= _) _ _ _
  refine PySem.wpAny_bind ?_
  have hS₂:(s'.heap.update S (Obj.mapSeq (·.push v))).get? S = some { cls:=.type "list",dict:=none,data:=.seq (pre ++ acc.push v) (c + 1),slots:=#[] }:=by
   have:=Heap.get?_update_self (Obj.mapSeq (·.push v)) hS' rfl
   rw [mapSeq_push] at this
   rw [this,Array.push_append]
  refine PySem.wpAny_updateSeq hS' rfl (PySem.wpAny_pure ⟨plainId_quiet F.plain_extend_loop _,ih (i + 1) _ (acc.push v) _ (by omega) hlt (W.frame _ s' _ s'.toks hst' (Nat.le_refl _) fun b hb o e => ?_) hS₂ (hacc.push hP) fun s'' acc' c' hm'' hS'' hacc' => ?_⟩)
   (by rw [Array.size_append,hacc.1];omega) (by show ((pre ++ acc).push v).size ≤ sizeLine + 1;rw [Array.size_push,Array.size_append,hacc.1];omega)
  ·exact (Heap.get?_update_other _ _ (fun h:S = b => hSf (by rw [h];exact hb))).trans e
  ·refine hR s'' acc' c' (Moved.trans W.gtrans ((hm.mono hsub).then_heap (by first | exact Nat.le_refl _ | exact Nat.le_succ _ | omega) fun b o hb e => ?_) hm'') hS'' hacc'
   exact (Heap.get?_update_other _ _ (fun h:S = b => hb (by rw [h];exact List.mem_cons_self ..))).trans e
end
section
variable {prog:Program} {w:World} {A:Around} {E:Value → Shared → Prop} {s:Shared} {b:Array UInt8} {t:Tok}
theorem Zhm {R:Result → Shared → Prop} (hh:A.handled = none) (S:Addr) (res:Value) (pre:Array Value) (c₀:Nat) (hS:s.heap.get? S = some { cls:=.type "list",data:=.seq pre c₀ })
  (hR:∀ h' tk acc' c',(∀ b o,b ≠ S → s.heap.get? b = some o → h'.get? b = some o) → h'.get? S = some { cls:=.type "list",dict:=none,data:=.seq (pre ++ acc') c',slots:=#[] } →
   ItemsOf (fun i v => ∃ c u,b[i]? = some c ∧ v = .int (c.toNat:Int) u) acc' b.size → R (.ok (.ret res)) { s with heap:=h',toks:=tk }) (hn:pre.size + b.size ≤ sizeLine) :
  PySem.wpAny (model prog w) A.in1 (Builtin.List.listExtendWith (.ref S) (.bytes b t) res)
   (fun fin s' => match fin with | .done f => R (.ok f) s' | .again c' => c'.quiet = true ∧ PySem.codeAny (model prog w) A c' R s') (fun e s' => R (.error e) s') s:=by
 have hSI:S ≠ s.heap.objs.size:=Nat.ne_of_lt (Heap.lt_size hS)
 have hSf:S ∉ [s.heap.objs.size]:=fun hm => hSI (List.mem_singleton.mp hm)
 unfold Builtin.List.listExtendWith
 refine PySem.wpAny_bind (PySem.wpAny_typeOf (T:="bytes") (v:=.bytes b t) (typeIs_bytes _ _ _) ?_)
 have h1:Builtin.List.listSameRef (.ref S) (.bytes b t) = false:=rfl
 have h2:(Value.type "bytes" == Value.type "list") = false:=by decide
 have h3:(Value.type "bytes" == Value.type "tuple") = false:=by decide
 simp only [h1,h2,h3,Bool.or_false,Bool.false_eq_true,if_false]
 refine PySem.wpAny_bind (KBw.pyIter_bytes ?_)
 refine PySem.wpAny_bind (PySem.wpAny_holding ?_)
 unfold Builtin.List.listLengthHint
 refine PySem.wpAny_bind (PySem.wpAny_specialOf (T:="bytes") (v:=.bytes b t) (typeIs_bytes _ _ _) Zdl ?_)
 wp_delta
 refine PySem.wpAny_bind (PySem.wpAny_isInstance (T:="bytes") (v:=.bytes b t) (b:=true) (typeIs_bytes _ _ _) (by rw [isSubtype_type];kernel_rfl) ?_)
 show PySem.wpAny _ _ (typeOf (Value.bytes b t) >>= _) _ _ _
 refine PySem.wpAny_bind (PySem.wpAny_typeOf (T:="bytes") (v:=.bytes b t) (typeIs_bytes _ _ _) ?_)
 refine PySem.wpAny_pure ?_
 rw [if_neg (by decide)]
 have W:=KBw.walks (prog:=prog) (w:=w) (A:=A.in1) hh s.heap.objs.size b t
 refine PySem.wpAny_pure ⟨plainId_quiet F.plain_extend_loop _,Znr W.toS pre hn _ hSf _ b.size 0 _ #[] _ rfl (Nat.zero_le _) ⟨_,Heap.get?_push_size _ rfl,rfl,rfl⟩ (by rw [Array.append_empty];exact Heap.get?_push_of_some _ hS) (ItemsOf.nil _) fun s' acc' c' hm hS' hacc => ?_⟩
 rw [Moved.eq_with hm]
 refine hR s'.heap s'.toks acc' c' (fun b' ob hb e => hm.heap b' ob (fun hmem => ?_) (Heap.get?_push_of_some _ e)) hS' hacc
 rcases List.mem_cons.mp hmem with e' | hmem
 ·exact hb e'
 ·exact absurd (Heap.lt_size e) (by rw [List.mem_singleton.mp hmem];exact Nat.lt_irrefl _)
end
section
variable {d k:Nat} {σ:List AO} {vs ws:List V} {ks ls:List Int} {v:V}
theorem Zjk (hk:σ[k]? = some (.list vs)) (hz:vs.length + ks.length ≤ 1000000):OpV d (Fn (.builtin "list.extend")) [.ref k,.bytes ks] σ .none (σ.set k (.list (vs ++ Za ks))):=.two fun c ι P s x y R S r1 r2 Q kQ => by
 obtain ⟨a,dd,items,n,rfl,e,rfl,e1,e2⟩:=S.listAt hk r1
 obtain ⟨b,t,rfl,rfl⟩:=r2.bytes'
 rw [KBw.ints_length] at hz
 have z1:vs.length = items.size:=by simpa using e2.length
 refine up (PySem.wpAny_call (PySem.codeAny_call_builtin PySem.F.slot_list_extend.plain PySem.F.entry_list_extend (PySem.F.slot_list_extend.check _ _ _ _ _ _ _ _ (show s.TypeIs (.ref dd) "list" from ⟨_,e1,rfl⟩) (PySem.F.args_list_extend_2 _ _) ?_)))
 show PySem.wpAny _ _ (Builtin.List.listExtendWith (.ref dd) (.bytes b t) .none) _ _ _
 refine Zhm (R:=wants Q c.E) R.hand dd .none items n e1 (fun h' tk acc' c' hk' f1 hacc => ?_) (by rw [sizeLine_eq];omega)
 exact kQ ι P h' tk (List.prefix_refl _) (.refl _) (S.change e (fun b o hb _ eb => hk' b o hb eb) ⟨rfl,_,_,f1,by rw [Array.toList_append];exact e2.append (Zfz hacc)⟩) _ .none
end
section
variable {sc:Scope} {σ g:List AO} {d:Nat} {ks:List Int} {ρ:List (Option V)}
noncomputable def ZY (x:Int):List Int:=if [34,92,10].contains x = true then [92,x] else if (x == 13) = true then [92,114] else if (x == 0) = true then [92,48,48,48] else [x]
noncomputable def Zh (ks:List Int):List Int:=34 :: (ks.flatMap ZY ++ [34])
theorem Zjl (x:Int):(ZY x).length ≤ 4:=by
 unfold ZY
 split
 ·simp
 ·split
  ·simp
  ·split <;> simp
theorem ZgE:∀ ks:List Int,(ks.flatMap ZY).length ≤ 4 * ks.length
 | [] => by simp
 | x :: ks => by
  rw [List.flatMap_cons,List.length_append,List.length_cons]
  have:=Zjl x
  have:=ZgE ks
  omega
theorem Zko {u:V} {vs ws:List V} (hu:IsL (σ ++ .list vs :: g) u ws) (hz:vs.length + ws.length ≤ 1000000):OpV d (Fn (.builtin "list.extend")) [.ref σ.length,u] (σ ++ .list vs :: g) .none (σ ++ .list (vs ++ ws) :: g):=by
 have:=Zja (d:=d) (σ:=σ ++ .list vs :: g) (k:=σ.length) (vs:=vs) at0 hu hz
 rwa [Zka] at this
theorem ZfE {vs:List V} (hz:vs.length + ks.length ≤ 1000000):OpV d (Fn (.builtin "list.extend")) [.ref σ.length,.bytes ks] (σ ++ .list vs :: g) .none (σ ++ .list (vs ++ Za ks) :: g):=by
 have:=Zjk (d:=d) (σ:=σ ++ .list vs :: g) (k:=σ.length) (vs:=vs) at0 hz
 rwa [Zka] at this
noncomputable def Zns:List MS:=[(.ife (.cmp (.loc 2) [.In] [(.cst (.bytes [34,92,10]))]) [(.expr (.callm (.loc 1) 29 [(.lst [(.cst (.int (92))),(.loc 2)])]))] [(.ife (.cmp (.loc 2) [.Eq] [(.cst (.int (13)))]) [(.expr (.callm (.loc 1) 29 [(.cst (.bytes [92,114]))]))] [(.ife (.cmp (.loc 2) [.Eq] [(.cst (.int (0)))]) [(.expr (.callm (.loc 1) 29 [(.cst (.bytes [92,48,48,48]))]))] [(.expr (.callm (.loc 1) 28 [(.loc 2)]))])])])]
theorem ZoN {x:Int} {t:V} {acc:List Int} (h0:0 ≤ x) (h1:x < 256) (hz:acc.length ≤ 900000):∃ g',TSs sc d Zns [some t,some (.ref σ.length),some (.int x)] (σ ++ .list (Za acc) :: g) (.next [some t,some (.ref σ.length),some (.int x)]) (σ ++ .list (Za (acc ++ ZY x)) :: g'):=by
 have tb:TB sc d (.cmp (.loc 2) [.In] [(.cst (.bytes [34,92,10]))]) [some t,some (.ref σ.length),some (.int x)] (σ ++ .list (Za acc) :: g) ([34,92,10].contains x) (σ ++ .list (Za acc) :: g):=TB.cmp (TE.loc rfl) TE.byt (Zay h0 h1)
 have hl:(Za acc).length = acc.length:=Zg acc
 unfold ZY
 cases hc:[34,92,10].contains x with
 | true =>
  rw [hc] at tb
  rw [if_pos rfl]
  refine ⟨g ++ [.list (Za [92,x])],TSs.if_do tb (TSs.do (v:=.none) ?_ TSs.nil) TSs.nil⟩
  rw [← ZaB]
  refine TE.callm (TE.loc rfl) (ZP Zb3 at0) (TEs.one (TE.lst (TEs.cons TE.int (TEs.one (TE.loc rfl))) (by simp))) ?_
  rw [Zkb]
  refine Zko (ws:=Za [92,x]) ?_ (by rw [hl,Zg];simp;omega)
  show (σ ++ AO.list (Za acc) :: (g ++ [AO.list [.int 92,.int x]]))[(σ ++ AO.list (Za acc) :: g).length]? = some (.list (Za [92,x]))
  rw [← Zkb];exact Zm
 | false =>
  rw [hc] at tb
  rw [if_neg (by decide)]
  have t2:TB sc d (.cmp (.loc 2) [.Eq] [(.cst (.int (13)))]) [some t,some (.ref σ.length),some (.int x)] (σ ++ .list (Za acc) :: g) (x == 13) (σ ++ .list (Za acc) :: g):=TB.cmp (TE.loc rfl) TE.int op_eq
  cases hc2:(x == 13) with
  | true =>
   rw [hc2] at t2
   rw [if_pos rfl,← ZaB]
   exact ⟨g,TSs.if_else tb (TSs.if_do t2 (TSs.do (TE.callm (TE.loc rfl) (ZP Zb3 at0) (TEs.one TE.byt) (ZfE (by rw [hl];simp;omega))) TSs.nil) TSs.nil) TSs.nil⟩
  | false =>
   rw [hc2] at t2
   rw [if_neg (by decide)]
   have t3:TB sc d (.cmp (.loc 2) [.Eq] [(.cst (.int (0)))]) [some t,some (.ref σ.length),some (.int x)] (σ ++ .list (Za acc) :: g) (x == 0) (σ ++ .list (Za acc) :: g):=TB.cmp (TE.loc rfl) TE.int op_eq
   cases hc3:(x == 0) with
   | true =>
    rw [hc3] at t3
    rw [if_pos rfl,← ZaB]
    exact ⟨g,TSs.if_else tb (TSs.if_else t2 (TSs.if_do t3 (TSs.do (TE.callm (TE.loc rfl) (ZP Zb3 at0) (TEs.one TE.byt) (ZfE (by rw [hl];simp;omega))) TSs.nil) TSs.nil) TSs.nil) TSs.nil⟩
   | false =>
    rw [hc3] at t3
    rw [if_neg (by decide),← Zbl]
    exact ⟨g,TSs.if_else tb (TSs.if_else t2 (TSs.if_else t3 (TSs.do (TE.callm (TE.loc rfl) (ZP ZI at0) (TEs.one (TE.loc rfl)) (ZaL (by rw [hl];omega))) TSs.nil) TSs.nil) TSs.nil) TSs.nil⟩
theorem ZpB {t:V}:∀ (ks:List Int) (acc:List Int) (g:List AO) (o:Option V),Oct ks → acc.length + 4 * ks.length ≤ 900000 → ∃ g' o',Lp sc d (fun _ => True) (.loc 2) Zns (Za ks) [some t,some (.ref σ.length),o] (σ ++ .list (Za acc) :: g) (.next [some t,some (.ref σ.length),o']) (σ ++ .list (Za (acc ++ ks.flatMap ZY)) :: g')
 | [],acc,g,o,_,_ => ⟨g,o,by rw [List.flatMap_nil,List.append_nil];exact .nil⟩
 | x :: ks,acc,g,o,ho,hz => by
  have hx:=ho x (by simp)
  rw [List.length_cons] at hz
  obtain ⟨g1,t1⟩:=ZoN (sc:=sc) (d:=d) (σ:=σ) (g:=g) (t:=t) (acc:=acc) hx.1 hx.2 (by omega)
  have:=Zjl x
  obtain ⟨g2,o2,t2⟩:=ZpB ks (acc ++ ZY x) g1 (some (.int x)) (fun y hy => ho y (by simp [hy])) (by rw [List.length_append];omega)
  rw [List.flatMap_cons,← List.append_assoc]
  exact ⟨g2,o2,.cons TA.loc t1 trivial t2⟩
theorem Znt {x:Int} (h:0 ≤ x ∧ x < 256):Oct (ZY x):=by
 unfold ZY
 split
 ·intro k hk;simp at hk;omega
 ·split
  ·intro k hk;simp at hk;omega
  ·split
   ·intro k hk;simp at hk;omega
   ·intro k hk;simp at hk;omega
theorem Zej (ho:Oct ks):Oct (Zh ks):=by
 intro k hk
 unfold Zh at hk
 rcases List.mem_cons.mp hk with rfl | hk
 ·decide
 ·rcases List.mem_append.mp hk with hk | hk
  ·obtain ⟨x,hx,hk⟩:=List.mem_flatMap.mp hk
   exact Znt (ho x hx) k hk
  ·rw [List.mem_singleton] at hk;subst hk;decide
theorem ZcT:(Zh ks).length ≤ 4 * ks.length + 2:=by
 unfold Zh
 have:=ZgE ks
 simp only [List.length_cons,List.length_append,List.length_nil]
 omega
theorem ZgF (ho:Oct ks) (hz:ks.length ≤ 10000):OpV 1 (Fn (.ref 194)) [.bytes ks] σ (.bytes (Zh ks)) σ:=by
 obtain ⟨g,o,hl⟩:=ZpB (sc:=Zb 21 none) (d:=0) (σ:=σ) (t:=.bytes ks) ks [34] [] none ho (by simp;omega)
 have hlen:=ZgE ks
 have hql:=ZcT (ks:=ks)
 refine Zf (k:=2) (g:=.list (Za (Zh ks)) :: g) ZbN rfl rfl ?_ (by simp [V.lt])
 refine TSs.set (TE.lst (TEs.one TE.int)) (TSs.cons (TS.for (TE.loc rfl) Zdu hl) (TSs.do (v:=.none) (σ₁:=σ ++ .list (Za (Zh ks)) :: g) ?_ (TSs.ret ?_)))
 ·have e:Zh ks = [34] ++ ks.flatMap ZY ++ [34]:=by unfold Zh;simp
  rw [e,← Zbl]
  exact TE.callm (TE.loc rfl) (ZP ZI at0) (TEs.one TE.int) (ZaL (by rw [Zg,List.length_append];simp only [List.length_cons,List.length_nil];omega))
 ·exact TE.blt (j:=2) rfl (by decide +kernel) rfl (TEs.one (TE.loc rfl)) (Z4 (show IsL _ (.ref _) _ from at0) (Zej ho) (by omega))
end
section
variable {sc:Scope} {σ g:List AO} {d:Nat} {ks:List Int} {ρ:List (Option V)} {k kA m w:Nat} {fl:List Int} {wd:Int} {p:V} {l:Int} {vs:List V}
noncomputable def Znu:V → Int
 | .int i => i
 | _ => 0
noncomputable def ZaG (fl:List Int) (wd:Int) (p:V) (l:Int) (v:V) (w:Nat):List Int :=
 if [100,105].contains l = true then ZeT fl wd p (Znu (Zb7 v w))
 else if [117,111,120,88].contains l = true then Zah fl wd p l (Znu (Zb7 v w) % 2 ^ w).toNat
 else if (l == 99) = true then Ziu fl wd (Znu (Zb7 v w))
 else if (l == 115) = true then Zfj fl wd p (ZeU v)
 else Zh (ZeU v)
structure ItemOk (p:V) (l:Int) (v:V) (w:Nat):Prop where
 oct:0 ≤ l ∧ l < 256
 prec:∀ q,p = .int q → q ≤ 99
 precOk:ZbI p
 num:l ∈ [100,105,117,111,120,88,(99:Int)] → Zcw v ∧ (∃ i:Int,Zb7 v w = .int i ∧ i.natAbs.log2 < 100)
 txt:l ∈ [115,(113:Int)] → Ziv v ∧ Oct (ZeU v) ∧ (ZeU v).length ≤ 10000
 some:l ∈ [100,105,117,111,120,88,99,115,(113:Int)]
theorem Zjm (D:DirAt σ k fl wd p l) (hl:0 ≤ l ∧ l < 256) {cs:List UInt8} {is:List Int} (hc:cs.map (fun c => (c.toNat:Int)) = is) {r:List (Option V)}:TB sc d (.cmp (.attr (.loc 0) 12) [.In] [(.cst (.bytes cs))]) (some (.ref k) :: r) σ (is.contains l) σ :=
 TB.cmp (Zbm D (TE.loc rfl)) (TE.byt hc) (Zay hl.1 hl.2)
theorem Zfk (D:DirAt σ k fl wd p l) {c:Nat} {s:Str} (hs:s = ⟨#[c]⟩) {r:List (Option V)}:TB sc d (.cmp (.attr (.loc 0) 12) [.Eq] [(.call 82 [(.cst (.str s))])]) (some (.ref k) :: r) σ (l == (c:Int)) σ :=
 TB.cmp (Zbm D (TE.loc rfl)) (TE.ord hs) op_eq
theorem Zkp (hA:ArgsAt σ kA vs w) {i:Int} (hv:Zcw (vs.getD m .none)) (hi:Zb7 (vs.getD m .none) w = .int i) {a:Option V} {r:List (Option V)} :
  TE sc (d + 6) (.callm (.loc 1) 41 [(.loc 2)]) (a :: some (.ref kA) :: some (.int ((m:Int) + 2)) :: r) σ (.int i) σ:=by
 obtain ⟨u,kL,fs,h1,_⟩:=hA.ex
 exact TE.callm (TE.loc rfl) (Zn (.tail _ (.tail _ (.head _))) (.tail _ (.head _)) h1 rfl Zx) (TEs.one (TE.loc rfl)) ((Zkn hA hv hi).more (by omega))
theorem Znv (hA:ArgsAt σ kA vs w) (hv:Ziv (vs.getD m .none)) {a:Option V} {r:List (Option V)} :
  TE sc (d + 6) (.callm (.loc 1) 9 [(.loc 2)]) (a :: some (.ref kA) :: some (.int ((m:Int) + 2)) :: r) σ (.bytes (ZeU (vs.getD m .none))) σ:=by
 obtain ⟨u,kL,fs,h1,_⟩:=hA.ex
 exact TE.callm (TE.loc rfl) (Zn (.tail _ (.tail _ (.head _))) (.tail _ (.tail _ (.head _))) h1 rfl Zat) (TEs.one (TE.loc rfl)) ((ZoM hA hv).more (by omega))
theorem Znw (hA:ArgsAt σ kA vs w) {a:Option V} {r:List (Option V)}:TE sc d (.bin .LShift (.cst (.int (1))) (.attr (.attr (.loc 1) 14) 0)) (a :: some (.ref kA) :: r) σ (.int (2 ^ w)) σ:=by
 obtain ⟨u,kL,fs,h1,h2,h3,h4,h5⟩:=hA.ex
 obtain ⟨b0,b1⟩:=hA.bits.pos
 refine TE.eqv (TE.bin TE.int (TE.attr (TE.attr (TE.loc rfl) (ZA (.tail _ (.tail _ (.head _))) (by decide) h1 rfl (by simp))) (ZA (.head _) (by decide) h4 h5 (by simp))) (ZjT (a:=1) (by omega) (by omega) (by decide))) ?_
 rw [Int.one_mul];rfl
theorem Zjn {n:Nat} (hp:∀ q,p = .int q → q ≤ 99) (hn:n.log2 < 100):(ZX p n (ZaA smallD 8 n).reverse).length ≤ 999:=by
 have hl:=Zgy (ks:=smallD) (n:=n) (b:=8) (by decide)
 cases p with
 | int q =>
  have:=hp q rfl
  simp only [ZX,Zei]
  split
  ·simp
  ·rw [List.length_append,List.length_replicate,List.length_reverse];omega
 | _ => simp only [ZX,List.length_reverse];omega
end
section
variable {sc:Scope} {σ g:List AO} {d:Nat} {ks:List Int} {ρ:List (Option V)} {k kA m w:Nat} {fl:List Int} {wd:Int} {p:V} {l:Int} {vs:List V}
theorem Znx (w:Nat):(0:Int) < 2 ^ w:=Int.pow_pos (by decide)
theorem ZoO (D:DirAt σ k fl wd p l) (hw:0 ≤ wd ∧ wd ≤ 1000) (hA:ArgsAt σ kA vs w) (hI:ItemOk p l (vs.getD m .none) w):OpV 7 (Fn (.ref 362)) [.ref k,.ref kA,.int ((m:Int) + 2)] σ (.bytes (ZaG fl wd p l (vs.getD m .none) w)) σ:=by
 refine Zf (k:=1) (g:=[]) Zbz rfl rfl ?_ (by simp [V.lt])
 rw [List.append_nil]
 have t1:=Zjm (sc:=Zb 42 none) (d:=6) D hI.oct (cs:=[100,105]) (is:=[100,105]) rfl (r:=[some (.ref kA),some (.int ((m:Int) + 2)),none])
 have t2:=Zjm (sc:=Zb 42 none) (d:=6) D hI.oct (cs:=[117,111,120,88]) (is:=[117,111,120,88]) rfl (r:=[some (.ref kA),some (.int ((m:Int) + 2)),none])
 have t3:=Zfk (sc:=Zb 42 none) (d:=6) D (c:=99) (s:=Str.ofString "c") (by decide) (r:=[some (.ref kA),some (.int ((m:Int) + 2)),none])
 have t4:=Zfk (sc:=Zb 42 none) (d:=6) D (c:=115) (s:=Str.ofString "s") (by decide) (r:=[some (.ref kA),some (.int ((m:Int) + 2)),none])
 have t5:=Zfk (sc:=Zb 42 none) (d:=6) D (c:=113) (s:=Str.ofString "q") (by decide) (r:=[some (.ref kA),some (.int ((m:Int) + 2)),none])
 have c3:(l == ((99:Nat):Int)) = (l == 99):=rfl
 have c4:(l == ((115:Nat):Int)) = (l == 115):=rfl
 have c5:(l == ((113:Nat):Int)) = (l == 113):=rfl
 rw [c3] at t3
 rw [c4] at t4
 rw [c5] at t5
 unfold ZaG
 cases h1:[100,105].contains l with
 | true =>
  rw [h1] at t1
  rw [if_pos rfl]
  have hl:l ∈ [100,105,117,111,120,88,(99:Int)]:=by
   have:l ∈ [100,(105:Int)]:=List.contains_iff_mem.mp h1
   simp only [List.mem_cons,List.not_mem_nil,or_false] at this ⊢
   omega
  obtain ⟨hv,i,hi,hn⟩:=hI.num hl
  rw [hi]
  exact TSs.if_ret t1 (TSs.ret (TE.callm (TE.loc rfl) (Zn (.tail _ (.head _)) (.tail _ (.tail _ (.tail _ (.tail _ (.head _))))) D.at_ rfl Zag) (TEs.one (Zkp (d:=0) hA hv hi)) ((ZlJ D hw hI.precOk (show i.natAbs.log2 < 800 by omega)).more (by decide))))
 | false =>
  rw [h1] at t1
  rw [if_neg (by decide)]
  refine TSs.if_go t1 ?_
  cases h2:[117,111,120,88].contains l with
  | true =>
   rw [h2] at t2
   rw [if_pos rfl]
   have hl:l ∈ [100,105,117,111,120,88,(99:Int)]:=by
    have:l ∈ [117,111,120,(88:Int)]:=List.contains_iff_mem.mp h2
    simp only [List.mem_cons,List.not_mem_nil,or_false] at this ⊢
    omega
   obtain ⟨hv,i,hi,hn⟩:=hI.num hl
   rw [hi]
   have hp:=Znx w
   have e1:(((i % 2 ^ w).toNat:Nat):Int) = i % 2 ^ w:=Int.toNat_of_nonneg (Int.emod_nonneg _ (by omega))
   have hlt:(i % 2 ^ w).toNat.log2 < 100:=by
    have h3:i % 2 ^ w < 2 ^ w:=Int.emod_lt_of_pos _ hp
    have h4:(2:Int) ^ w ≤ 2 ^ 64:=by
     rcases hA.bits with rfl | rfl | rfl | rfl <;> decide
    by_cases hz:(i % 2 ^ w).toNat = 0
    ·rw [hz];decide
    ·exact (Nat.log2_lt hz).mpr (by omega)
   have tm:TE (Zb 42 none) 6 (.bin .Mod (.callm (.loc 1) 41 [(.loc 2)]) (.bin .LShift (.cst (.int (1))) (.attr (.attr (.loc 1) 14) 0))) [some (.ref k),some (.ref kA),some (.int ((m:Int) + 2)),none] σ (.int (i % 2 ^ w).toNat) σ :=
    TE.eqv (TE.bin (Zkp (d:=0) hA hv hi) (Znw hA) (Z8 hp)) (by rw [e1])
   exact TSs.if_ret t2 (TSs.ret (TE.callm (TE.loc rfl) (Zn (.tail _ (.head _)) (.tail _ (.tail _ (.tail _ (.tail _ (.tail _ (.head _)))))) D.at_ rfl Zu) (TEs.one tm) ((Zje D hw hI.precOk (show (i % 2 ^ w).toNat.log2 < 800 by omega) hI.oct.1 hI.oct.2 (Zjn hI.prec hlt)).more (by decide))))
  | false =>
   rw [h2] at t2
   rw [if_neg (by decide)]
   refine TSs.if_go t2 ?_
   cases h3:(l == 99) with
   | true =>
    rw [h3] at t3
    rw [if_pos rfl]
    have hl:l ∈ [100,105,117,111,120,88,(99:Int)]:=by
     rw [beq_iff_eq] at h3
     subst h3
     decide
    obtain ⟨hv,i,hi,hn⟩:=hI.num hl
    rw [hi]
    exact TSs.if_ret t3 (TSs.ret (TE.callm (TE.loc rfl) (Zn (.tail _ (.head _)) (.tail _ (.tail _ (.tail _ (.tail _ (.tail _ (.tail _ (.head _))))))) D.at_ rfl Za1) (TEs.one (Zkp (d:=0) hA hv hi)) ((Znk D hw).more (by decide))))
   | false =>
    rw [h3] at t3
    rw [if_neg (by decide)]
    refine TSs.if_go t3 ?_
    cases h4:(l == 115) with
    | true =>
     rw [h4] at t4
     rw [if_pos rfl]
     have hl:l ∈ [115,(113:Int)]:=by
      rw [beq_iff_eq] at h4
      subst h4
      decide
     obtain ⟨hv,_,hz⟩:=hI.txt hl
     exact TSs.if_ret t4 (TSs.ret (TE.callm (TE.loc rfl) (Zn (.tail _ (.head _)) (.tail _ (.tail _ (.tail _ (.tail _ (.tail _ (.tail _ (.tail _ (.head _)))))))) D.at_ rfl Za2) (TEs.one (Znv (d:=0) hA hv)) ((Znm D hw hI.precOk hz).more (by decide))))
    | false =>
     rw [h4] at t4
     rw [if_neg (by decide)]
     have hl:l = 113:=by
      have:=hI.some
      have n1:¬ l ∈ [100,(105:Int)]:=fun q => by rw [List.contains_iff_mem.mpr q] at h1;cases h1
      have n2:¬ l ∈ [117,111,120,(88:Int)]:=fun q => by rw [List.contains_iff_mem.mpr q] at h2;cases h2
      rw [beq_eq_false_iff_ne] at h3 h4
      simp only [List.mem_cons,List.not_mem_nil,or_false] at this n1 n2
      omega
     have h5:(l == 113) = true:=by rw [hl];rfl
     rw [h5] at t5
     obtain ⟨hv,ho,hz⟩:=hI.txt (by rw [hl];decide)
     exact TSs.if_go t4 (TSs.if_ret t5 (TSs.ret (TE.def rfl ZbN (TEs.one (Znv (d:=0) hA hv)) ((ZgF ho hz).more (by decide)))))
end
inductive Fmt (ks:List Int) (vs:List V) (w:Nat):Nat → Nat → List Int → Prop
 | done {i m:Nat}:ks.length ≤ i → Fmt ks vs w i m []
 | chr {i m out}:i < ks.length → ks.getD i 0 ≠ 37 → Fmt ks vs w (i + 1) m out → Fmt ks vs w i m (ks.getD i 0 :: out)
 | pct {i m out}:i + 1 < ks.length → ks.getD i 0 = 37 → ks.getD (i + 1) 0 = 37 → Fmt ks vs w (i + 2) m out → Fmt ks vs w i m (37 :: out)
 | dir {i m out fl wd p l a}:i < ks.length → ks.getD i 0 = 37 → (decide (i + 1 < ks.length) && (ks.getD (i + 1) 0 == 37)) = false → Zt ks (i + 1) = .dir fl wd p l a → ItemOk p l (vs.getD m .none) w → 0 ≤ wd ∧ wd ≤ 1000 →
   Fmt ks vs w a (m + 1) out → Fmt ks vs w i m (ZaG fl wd p l (vs.getD m .none) w ++ out)
noncomputable def Zkq:ME:=.cmp (.loc 3) [.Lt] [(.call 75 [(.loc 0)])]
noncomputable def Zek:List MS:=[(.assign (.loc 5) (.sub (.loc 0) (.loc 3))),(.assign (.loc 3) (.bin .Add (.loc 3) (.cst (.int (1))))),(.ife (.cmp (.loc 5) [.NotEq] [(.glob 37)]) [(.expr (.callm (.loc 2) 28 [(.loc 5)]))] [(.ife (.bool .And [(.cmp (.loc 3) [.Lt] [(.call 75 [(.loc 0)])]),(.cmp (.sub (.loc 0) (.loc 3)) [.Eq] [(.glob 37)])]) [(.expr (.callm (.loc 2) 28 [(.glob 37)])),(.assign (.loc 3) (.bin .Add (.loc 3) (.cst (.int (1)))))] [(.assign (.loc 4) (.bin .Add (.loc 4) (.cst (.int (1))))),(.assign (.tup [(.loc 6),(.loc 3),(.loc 7)]) (.call 31 [(.loc 0),(.loc 3)])),(.ife (.cmp (.loc 7) [.IsNot] [(.cst .none)]) [(.expr (.callm (.loc 1) 42 [(.loc 7)]))] []),(.expr (.callm (.loc 2) 29 [(.call 35 [(.loc 6),(.loc 1),(.loc 4)])]))])])]
noncomputable def ZaT (ks:List Int) (kA kF:Nat) (i m:Nat) (r:List (Option V)):List (Option V):=some (.bytes ks) :: some (.ref kA) :: some (.ref kF) :: some (.int (i:Nat)) :: some (.int ((m:Int) + 1)) :: r
section
variable {sc:Scope} {σ g:List AO} {d kA m w i:Nat} {ks acc:List Int} {vs:List V} {r:List (Option V)}
theorem Zhn {a:Int} (h0:0 ≤ a) (h1:a < 256) (hz:acc.length < 1000000):OpV d (Fn (.builtin "bytearray.append")) [.ref σ.length,.int a] (σ ++ .barr acc :: g) .none (σ ++ .barr (acc ++ [a]) :: g):=by
 have:=ZeA (d:=d) (σ:=σ ++ .barr acc :: g) (k:=σ.length) (ks:=acc) at0 h0 h1 hz
 rwa [Zka] at this
theorem Zho {ls:List Int} (hz:acc.length + ls.length < 1000000):OpV d (Fn (.builtin "bytearray.extend")) [.ref σ.length,.bytes ls] (σ ++ .barr acc :: g) .none (σ ++ .barr (acc ++ ls) :: g):=by
 have:=Zh5 (d:=d) (σ:=σ ++ .barr acc :: g) (k:=σ.length) (ks:=acc) (ls:=ls) at0 hz
 rwa [Zka] at this
theorem Zbq (hz:ks.length ≤ 1000000) {b:Bool} (h:decide (i < ks.length) = b):TB sc d Zkq (ZaT ks kA σ.length i m r) (σ ++ .barr acc :: g) b (σ ++ .barr acc :: g):=TB.atLen rfl rfl hz h
theorem Ziw (hz:ks.length ≤ 1000000) (hi:i < ks.length) {x y z:Option V} {ms:List MS} {o:Out} {σ':List AO} (h:TSs sc d ms (ZaT ks kA σ.length (i + 1) m [some (.int (ks.getD i 0)),y,z]) (σ ++ .barr acc :: g) o σ') :
  TSs sc d ((.assign (.loc 5) (.sub (.loc 0) (.loc 3))) :: (.assign (.loc 3) (.bin .Add (.loc 3) (.cst (.int (1))))) :: ms) (ZaT ks kA σ.length i m [x,y,z]) (σ ++ .barr acc :: g) o σ' :=
 TSs.set (TE.at rfl rfl hz hi) (TSs.set (v:=.int ((i + 1:Nat):Int)) (TE.eqv (TE.bin (TE.loc rfl) TE.int ZK) (by simp)) h)
theorem Zix {b:Bool} {y z:Option V} (h:(ks.getD i 0 != 37) = b):TB sc d (.cmp (.loc 5) [.NotEq] [(.glob 37)]) (ZaT ks kA σ.length (i + 1) m [some (.int (ks.getD i 0)),y,z]) (σ ++ .barr acc :: g) b (σ ++ .barr acc :: g) :=
 TB.eqv (TB.cmp (TE.loc rfl) (TE.glob rfl) Zew) h
theorem Zkr (hz:ks.length ≤ 1000000) {j:Nat} {x y z:Option V}:TB sc d (.bool .And [(.cmp (.loc 3) [.Lt] [(.call 75 [(.loc 0)])]),(.cmp (.sub (.loc 0) (.loc 3)) [.Eq] [(.glob 37)])]) (ZaT ks kA σ.length j m [x,y,z]) (σ ++ .barr acc :: g) (decide (j < ks.length) && (ks.getD j 0 == 37)) (σ ++ .barr acc :: g):=by
 by_cases hl:j < ks.length
 ·exact TB.eqv (TB.bool (TBs.and' (TB.atLen rfl rfl hz (decide_eq_true hl)) fun _ => TBs.and' (TB.cmp (TE.at rfl rfl hz hl) (TE.glob rfl) op_eq) fun _ => TBs.and_nil)) (by simp [hl])
 ·exact TB.eqv (TB.bool (TBs.and_f (TB.atLen rfl rfl hz (decide_eq_false hl)))) (by simp [hl])
theorem Zny {a:Int} {e:ME} {ρ:List (Option V)} (hk:ρ[2]? = some (some (.ref σ.length))) (he:TE sc d e ρ (σ ++ .barr acc :: g) (.int a) (σ ++ .barr acc :: g)) (h0:0 ≤ a) (h1:a < 256) (hz:acc.length < 1000000) :
  TE sc d (.callm (.loc 2) 28 [e]) ρ (σ ++ .barr acc :: g) .none (σ ++ .barr (acc ++ [a]) :: g) :=
 TE.callm (TE.loc hk) (ZdH Zdq at0) (TEs.one he) (Zhn h0 h1 hz)
theorem Znz (ho:Oct ks) (hz:ks.length ≤ 1000000) (hi:i < ks.length) (hc:ks.getD i 0 ≠ 37) (ha:acc.length < 1000000) {x y z:Option V} :
  TSs sc d Zek (ZaT ks kA σ.length i m [x,y,z]) (σ ++ .barr acc :: g) (.next (ZaT ks kA σ.length (i + 1) m [some (.int (ks.getD i 0)),y,z])) (σ ++ .barr (acc ++ [ks.getD i 0]) :: g):=by
 have hb:=ho.get (i:=i)
 exact Ziw hz hi (TSs.if_do (Zix (by simpa [bne] using hc)) (TSs.do (Zny rfl (TE.loc rfl) hb.1 hb.2 ha) TSs.nil) TSs.nil)
theorem ZnA (hz:ks.length ≤ 1000000) (hi:i + 1 < ks.length) (hc:ks.getD i 0 = 37) (hc2:ks.getD (i + 1) 0 = 37) (ha:acc.length < 1000000) {x y z:Option V} :
  TSs sc d Zek (ZaT ks kA σ.length i m [x,y,z]) (σ ++ .barr acc :: g) (.next (ZaT ks kA σ.length (i + 2) m [some (.int (ks.getD i 0)),y,z])) (σ ++ .barr (acc ++ [37]) :: g):=by
 have t2:=Zkr (sc:=sc) (d:=d) (kA:=kA) (σ:=σ) (g:=g) (acc:=acc) (m:=m) hz (j:=i + 1) (x:=some (.int (ks.getD i 0))) (y:=y) (z:=z)
 rw [hc2,decide_eq_true hi] at t2
 refine Ziw hz (by omega) (TSs.if_else (Zix (by rw [hc];rfl)) (TSs.if_do t2 (TSs.do (Zny rfl (TE.glob rfl) (by decide) (by decide) ha) (TSs.set (v:=.int ((i + 2:Nat):Int)) ?_ TSs.nil)) TSs.nil) TSs.nil)
 exact TE.eqv (TE.bin (TE.loc rfl) TE.int ZK) (by congr 1)
end
section
variable {sc:Scope} {σ g:List AO} {d kA m w i:Nat} {ks acc:List Int} {vs:List V} {r:List (Option V)}
theorem TB.notNone {v:V} {e:ME} {ρ:List (Option V)} (h:TE sc d e ρ σ v σ) (hp:∀ x,v ≠ .ext x):TB sc d (.cmp e [.IsNot] [(.cst .none)]) ρ σ (!isNone v) σ:=by
 refine TB.cmp h TE.none ?_
 cases v with
 | none => exact Zll
 | ext x => exact absurd rfl (hp x)
 | _ => exact Zlk (by simp) (by simp)
theorem ZoP (ho:Oct ks) (hz:ks.length ≤ 1000000) {j:Nat} (hj:j ≤ ks.length) {x y z:Option V} {ms:List MS} {o:Out} {σ₁ σ':List AO} {a:Nat} {v1 v3:V} (hv:(Zt ks j).val (σ ++ .barr acc :: g) = .tup [v1,.int a,v3]) (hs:(Zt ks j).sto (σ ++ .barr acc :: g) = σ₁)
  (h:TSs sc 7 ms (ZaT ks kA σ.length a (m + 1) [x,some v1,some v3]) σ₁ o σ') :
  TSs sc 7 ((.assign (.loc 4) (.bin .Add (.loc 4) (.cst (.int (1))))) :: (.assign (.tup [(.loc 6),(.loc 3),(.loc 7)]) (.call 31 [(.loc 0),(.loc 3)])) :: ms) (ZaT ks kA σ.length j m [x,y,z]) (σ ++ .barr acc :: g) o σ':=by
 have hr:=Zcq (σ:=σ ++ .barr acc :: g) ho hz hj
 rw [hv,hs] at hr
 refine TSs.set (v:=.int (((m + 1:Nat):Int) + 1)) (TE.eqv (TE.bin (TE.loc rfl) TE.int ZK) (by simp)) ?_
 exact TSs.cons (TS.assign (TE.def rfl Zak (TEs.cons (TE.loc rfl) (TEs.one (TE.loc rfl))) (hr.more (by decide))) (TA.tup (TAs.slots (is:=[6,3,7]) rfl rfl))) h
theorem ZnB (ho:Oct ks) (hz:ks.length ≤ 1000000) (hi:i < ks.length) (hc:ks.getD i 0 = 37) (hc2:(decide (i + 1 < ks.length) && (ks.getD (i + 1) 0 == 37)) = false) {fl:List Int} {wd:Int} {p:V} {l:Int} {a:Nat} (hr:Zt ks (i + 1) = .dir fl wd p l a)
  (hI:ItemOk p l (vs.getD m .none) w) (hw:0 ≤ wd ∧ wd ≤ 1000) (hA:ArgsAt σ kA vs w) (ha:acc.length + (ZaG fl wd p l (vs.getD m .none) w).length < 1000000) {x y z:Option V} :
  ∃ g' o5 o6 o7,TSs sc 7 Zek (ZaT ks kA σ.length i m [x,y,z]) (σ ++ .barr acc :: g) (.next (ZaT ks kA σ.length a (m + 1) [o5,o6,o7])) (σ ++ .barr (acc ++ ZaG fl wd p l (vs.getD m .none) w) :: g'):=by
 have t2:=Zkr (sc:=sc) (d:=7) (kA:=kA) (σ:=σ) (g:=g) (acc:=acc) (m:=m) hz (j:=i + 1) (x:=some (.int (ks.getD i 0))) (y:=y) (z:=z)
 rw [hc2] at t2
 refine ⟨g ++ [.inst 288 (ZfT fl wd p l)],some (.int (ks.getD i 0)),some (.ref (σ ++ .barr acc :: g).length),some .none,Ziw hz hi (TSs.if_else (Zix (by rw [hc];rfl)) (TSs.if_else t2 ?_ TSs.nil) TSs.nil)⟩
 refine ZoP (σ₁:=(σ ++ .barr acc :: g) ++ [.inst 288 (ZfT fl wd p l)]) (v1:=.ref (σ ++ .barr acc :: g).length) (v3:=.none) ho hz (by omega) (by rw [hr];rfl) (by rw [hr];rfl) ?_
 have D:DirAt ((σ ++ .barr acc :: g) ++ [.inst 288 (ZfT fl wd p l)]) (σ ++ .barr acc :: g).length fl wd p l:=⟨Zm,fun x q => by
  have:=hI.precOk
  rw [q] at this
  exact this.elim⟩
 refine TSs.if_go (TB.eqv (TB.notNone (v:=.none) (TE.loc rfl) (by simp)) rfl) (TSs.do (v:=.none) ?_ TSs.nil)
 have hA':ArgsAt ((σ ++ .barr acc :: g) ++ [.inst 288 (ZfT fl wd p l)]) kA vs w:=(hA.app (g:=.barr acc :: g)).app
 have it:=ZoO D hw hA' hI
 rw [Zkb] at it ⊢
 have e:((m + 1:Nat):Int) + 1 = (m:Int) + 2:=by omega
 refine TE.callm (TE.loc rfl) (ZdH Zdr at0) (TEs.one (TE.def rfl Zbz (TEs.cons (TE.loc rfl) (TEs.cons (TE.loc rfl) (TEs.one (TE.loc rfl)))) ?_)) (Zho ha)
 rw [e]
 exact it
theorem Zrc (ho:Oct ks) (hz:ks.length ≤ 1000000) (hA:ArgsAt σ kA vs w) {out:List Int} (h:Fmt ks vs w i m out):∀ (acc:List Int) (g:List AO) (x y z:Option V),acc.length + out.length < 1000000 →
  ∃ n g' i' m' o5 o6 o7,Wh sc 7 Zkq Zek n (ZaT ks kA σ.length i m [x,y,z]) (σ ++ .barr acc :: g) (.next (ZaT ks kA σ.length i' m' [o5,o6,o7])) (σ ++ .barr (acc ++ out) :: g'):=by
 induction h with
 | done hi =>
  intro acc g x y z hl
  rw [List.append_nil]
  exact ⟨0,g,_,_,_,_,_,.done (Zbq hz (decide_eq_false (by omega)))⟩
 | @chr i m out hi hc _ ih =>
  intro acc g x y z hl
  rw [List.length_cons] at hl
  obtain ⟨n,g',i',m',o5,o6,o7,hw⟩:=ih (acc ++ [ks.getD i 0]) g (some (.int (ks.getD i 0))) y z (by rw [List.length_append];simp only [List.length_cons,List.length_nil];omega)
  refine ⟨n + 1,g',i',m',o5,o6,o7,.step (Zbq hz (decide_eq_true hi)) (Znz ho hz hi hc (by omega)) ?_⟩
  rw [show acc ++ ks.getD i 0 :: out = acc ++ [ks.getD i 0] ++ out by simp]
  exact hw
 | @pct i m out hi hc hc2 _ ih =>
  intro acc g x y z hl
  rw [List.length_cons] at hl
  obtain ⟨n,g',i',m',o5,o6,o7,hw⟩:=ih (acc ++ [37]) g (some (.int (ks.getD i 0))) y z (by rw [List.length_append];simp only [List.length_cons,List.length_nil];omega)
  refine ⟨n + 1,g',i',m',o5,o6,o7,.step (Zbq hz (decide_eq_true (by omega))) (ZnA hz hi hc hc2 (by omega)) ?_⟩
  rw [show acc ++ 37 :: out = acc ++ [37] ++ out by simp]
  exact hw
 | @dir i m out fl wd p l a hi hc hc2 hr hI hw _ ih =>
  intro acc g x y z hl
  rw [List.length_append] at hl
  obtain ⟨g1,o5,o6,o7,t⟩:=ZnB (sc:=sc) (kA:=kA) (g:=g) (x:=x) (y:=y) (z:=z) ho hz hi hc hc2 hr hI hw hA (acc:=acc) (by omega)
  obtain ⟨n,g',i',m',p5,p6,p7,hw'⟩:=ih (acc ++ ZaG fl wd p l (vs.getD m .none) w) g1 o5 o6 o7 (by rw [List.length_append];omega)
  refine ⟨n + 1,g',i',m',p5,p6,p7,.step (Zbq hz (decide_eq_true hi)) t ?_⟩
  rw [← List.append_assoc]
  exact hw'
theorem Zhp (ho:Oct ks) (hz:ks.length ≤ 1000000) (hA:ArgsAt σ kA vs w) {out:List Int} (h:Fmt ks vs w 0 0 out) (hl:out.length < 1000000):OpV 8 (Fn (.ref 369)) [.bytes ks,.ref kA] σ (.bytes out) σ:=by
 obtain ⟨n,g,i',m',o5,o6,o7,hw⟩:=Zrc (sc:=Zb 43 none) (kA:=kA) ho hz hA h [] [] none none none (by simpa using hl)
 refine Zf (k:=6) (g:=.barr out :: g) Zan rfl rfl ?_ (by simp [V.lt])
 have t0:TEs (Zb 43 none) 7 [(.call 77 []),(.cst (.int (0))),(.cst (.int (1)))] [some (.bytes ks),some (.ref kA),none,none,none,none,none,none] σ [.ref σ.length,.int 0,.int 1] (σ ++ [.barr []]) :=
  TEs.cons (TE.blt (j:=3) rfl (by decide +kernel) rfl TEs.nil ZdE) (TEs.cons TE.int (TEs.one TE.int))
 refine TSs.cons (TS.pack t0 (is:=[2,3,4]) rfl (.inl rfl) rfl (by decide) (by simp)) ?_
 refine TSs.cons (TS.while hw) (TSs.ret ?_)
 exact TE.blt (j:=2) rfl (by decide +kernel) rfl (TEs.one (TE.loc rfl)) (Zfx (ks:=out) at0 (by omega))
end
section
variable {τ:List AO} {kX kB kL kD kC i d:Nat} {F F':List (Nat × V)} {acc acc' txt:List Int} {sc:Scope} {ρ:List (Option V)} {sg ln ll:Int}
theorem ZbC (h:LC τ kX kB kL) {n f m:Nat} {sc':Scope} {code:List MS} {as:List ME} {vs:List V} {v:V} {σ':List AO} (hj:ρ[0]? = some (some (.ref kX))) (hm:(n,f) ∈ [(43,483),(44,497),(45,518),(46,525),(47,532),(55,539),(48,546),(56,553),(49,560),(50,567),(58,574),(57,581),(51,644),(52,651),(53,658),(54,511)]) (hF:Zbw n F = none)
  (hc:Zc f sc' m code) (h1:TEs sc d as ρ (LX τ kX kB F acc) vs (LX τ kX kB F acc)) (h2:OpV d (Fn (.ref f)) (.ref kX :: vs) (LX τ kX kB F acc) v σ'):TE sc d (.callm (.loc 0) n as) ρ (LX τ kX kB F acc) v σ' :=
 TE.callm (TE.loc hj) (Zn (.tail _ (.tail _ (.tail _ (.tail _ (.head _))))) hm h.X hF hc) h1 h2
noncomputable abbrev lx (τ:List AO) (kX kB:Nat) (txt:List Int) (kL kD kC i:Nat) (ln ll:Int) (acc:List Int):List AO:=LX τ kX kB (Zi txt kL kD i (Z1 txt i) ln ll kB kC) acc
structure LO (τ:List AO) (kX kB kL kD kC:Nat) (txt:List Int):Prop extends LC τ kX kB kL where
 ltD:kD < τ.length
 ltC:kC < τ.length
 oct:Oct txt
 len:txt.length ≤ 100000
theorem LO.lt (h:LO τ kX kB kL kD kC txt) {i:Nat} {sg ln ll:Int}:Fs.lt τ.length (Zi txt kL kD i sg ln ll kB kC):=by
 obtain ⟨fs,h1,_⟩:=h.lim
 exact Zcn (Zas h1) h.ltD h.ltB h.ltC
theorem TE.move (h:LO τ kX kB kL kD kC txt) (hj:ρ[0]? = some (some (.ref kX))):TE sc (d + 1) (.callm (.loc 0) 45 []) ρ (LX τ kX kB (Zi txt kL kD i sg ln ll kB kC) acc) .none (lx τ kX kB txt kL kD kC (i + 1) ln ll acc) :=
 ZbC h.toLC hj (by decide) rfl Zci TEs.nil ((ZoE h.toLC h.len fun _ _ => h.lt).more (by omega))
theorem ZoQ (h:LO τ kX kB kL kD kC txt) {a:Int} (h0:0 ≤ a) (h1:a < 256) (hl:acc.length ≤ 100000):OpV 1 (Fn (.ref 525)) [.ref kX,.int a] (LX τ kX kB (Zi txt kL kD i sg ln ll kB kC) acc) .none (LX τ kX kB (Zi txt kL kD i sg ln ll kB kC) (acc ++ [a])):=by
 refine Zdt (k:=0) (g:=[]) (o:=.next [some (.ref kX),some (.int a)]) Zcj rfl rfl h.lt ?_ rfl (by simp [V.lt])
 rw [List.append_nil]
 have gb:TE (Zb 89 (some 7)) 0 (.attr (.loc 0) 25) [some (.ref kX),some (.int a)] (LX τ kX kB (Zi txt kL kD i sg ln ll kB kC) acc) (.ref kB) (LX τ kX kB (Zi txt kL kD i sg ln ll kB kC) acc):=ZdJ h.toLC rfl (by decide) rfl (by simp)
 have gl:TE (Zb 89 (some 7)) 0 (.attr (.loc 0) 14) [some (.ref kX),some (.int a)] (LX τ kX kB (Zi txt kL kD i sg ln ll kB kC) acc) (.ref kL) (LX τ kX kB (Zi txt kL kD i sg ln ll kB kC) acc):=ZdJ h.toLC rfl (by decide) rfl (by simp)
 obtain ⟨fs,f1,f2⟩:=h.toLC.L (F:=Zi txt kL kD i sg ln ll kB kC) (acc:=acc)
 have tc:TB (Zb 89 (some 7)) 0 (.cmp (.call 75 [(.attr (.loc 0) 25)]) [.GtE] [(.attr (.attr (.loc 0) 14) 9)]) [some (.ref kX),some (.int a)] (LX τ kX kB (Zi txt kL kD i sg ln ll kB kC) acc) false (LX τ kX kB (Zi txt kL kD i sg ln ll kB kC) acc) :=
  TB.eqv (TB.cmp (TE.blt (j:=1) rfl rfl rfl (TEs.one gb) (Zhz h.B (by omega))) (TE.attr gl (ZA (.head _) (by decide) f1 f2 (by simp))) Zex) (decide_eq_false (by omega))
 refine TSs.if_go tc (TSs.do (v:=.none) ?_ TSs.nil)
 have:=ZeA (d:=0) (h.B (F:=Zi txt kL kD i sg ln ll kB kC) (acc:=acc)) h0 h1 (by omega)
 rw [ZoC] at this
 exact TE.callm gb (ZdH Zdq h.B) (TEs.one (TE.loc rfl)) this
theorem TE.keep (h:LO τ kX kB kL kD kC txt) (hj:ρ[0]? = some (some (.ref kX))) {e:ME} {a:Int} (he:TE sc (d + 1) e ρ (LX τ kX kB (Zi txt kL kD i sg ln ll kB kC) acc) (.int a) (LX τ kX kB (Zi txt kL kD i sg ln ll kB kC) acc)) (h0:0 ≤ a) (h1:a < 256) (hl:acc.length ≤ 100000) :
  TE sc (d + 1) (.callm (.loc 0) 46 [e]) ρ (LX τ kX kB (Zi txt kL kD i sg ln ll kB kC) acc) .none (LX τ kX kB (Zi txt kL kD i sg ln ll kB kC) (acc ++ [a])) :=
 ZbC h.toLC hj (by decide) rfl Zcj (TEs.one he) ((ZoQ h h0 h1 hl).more (by omega))
theorem TE.sign (h:LO τ kX kB kL kD kC txt) (hj:ρ[0]? = some (some (.ref kX))):TE sc d (.attr (.loc 0) 22) ρ (LX τ kX kB (Zi txt kL kD i sg ln ll kB kC) acc) (.int sg) (LX τ kX kB (Zi txt kL kD i sg ln ll kB kC) acc):=ZdJ h.toLC hj (by decide) rfl (by simp)
theorem Ziy (h:LO τ kX kB kL kD kC txt) (h0:0 ≤ sg) (h1:sg < 256) (hl:acc.length ≤ 100000):OpV 2 (Fn (.ref 532)) [.ref kX] (LX τ kX kB (Zi txt kL kD i sg ln ll kB kC) acc) .none (lx τ kX kB txt kL kD kC (i + 1) ln ll (acc ++ [sg])):=by
 refine Zdt (k:=0) (g:=[]) (o:=.next [some (.ref kX)]) Zau rfl rfl h.lt ?_ rfl (by simp [V.lt])
 rw [List.append_nil]
 exact TSs.do (TE.keep (d:=0) h rfl (TE.sign h rfl) h0 h1 hl) (TSs.do (TE.move (d:=0) h rfl) TSs.nil)
theorem TE.keepMove (h:LO τ kX kB kL kD kC txt) (hj:ρ[0]? = some (some (.ref kX))) (h0:0 ≤ sg) (h1:sg < 256) (hl:acc.length ≤ 100000) :
  TE sc (d + 2) (.callm (.loc 0) 47 []) ρ (LX τ kX kB (Zi txt kL kD i sg ln ll kB kC) acc) .none (lx τ kX kB txt kL kD kC (i + 1) ln ll (acc ++ [sg])) :=
 ZbC h.toLC hj (by decide) rfl Zau TEs.nil ((Ziy h h0 h1 hl).more (by omega))
theorem Zjo (h:LO τ kX kB kL kD kC txt) (hn:ZfQ (Z1 txt (i + 1)) = false) (hln:ln < 1000000):OpV 2 (Fn (.ref 553)) [.ref kX] (LX τ kX kB (Zi txt kL kD i sg ln ll kB kC) acc) .none (lx τ kX kB txt kL kD kC (i + 1) (ln + 1) ll acc):=by
 refine Zdt (k:=1) (g:=[]) (o:=.next [some (.ref kX),some (.int sg)]) Zbb rfl rfl h.lt ?_ rfl (by simp [V.lt])
 rw [List.append_nil]
 have tn:TB (Zb 89 (some 11)) 1 (.bool .And [(.call 43 [(.attr (.loc 0) 22)]),(.cmp (.attr (.loc 0) 22) [.NotEq] [(.loc 1)])]) [some (.ref kX),some (.int sg)] (lx τ kX kB txt kL kD kC (i + 1) ln ll acc) false (lx τ kX kB txt kL kD kC (i + 1) ln ll acc):=by
  refine TB.bool (TBs.and_f (TB.eqv (TB.val (TE.def rfl Za3 (TEs.one (TE.sign h rfl)) is_newline_ok)) hn))
 have ta:TS (Zb 89 (some 11)) 1 (.auga 0 23 .Add (.cst (.int (1)))) [some (.ref kX),some (.int sg)] (lx τ kX kB txt kL kD kC (i + 1) ln ll acc) (.next [some (.ref kX),some (.int sg)]) (lx τ kX kB txt kL kD kC (i + 1) (ln + 1) ll acc):=by
  have:=TS.auga (sc:=Zb 89 (some 11)) (d:=1) (ρ:=[some (.ref kX),some (.int sg)]) (i:=0) (n:=23) (e:=.cst (.int 1)) (op:=.Add) (r:=.int (ln + 1)) rfl (ZA (.tail _ (.tail _ (.tail _ (.tail _ (.head _))))) (by decide) (h.X (F:=Zi txt kL kD (i + 1) (Z1 txt (i + 1)) ln ll kB kC) (acc:=acc)) rfl (by simp)) TE.int (Zh2 (a:=ln) (b:=1)) h.X (.tail _ (.tail _ (.tail _ (.tail _ (.head _))))) (by decide) (by simp [Zi])
  rwa [h.toLC.setX] at this
 have tm:TB (Zb 89 (some 11)) 1 (.cmp (.attr (.loc 0) 23) [.GtE] [(.glob 42)]) [some (.ref kX),some (.int sg)] (lx τ kX kB txt kL kD kC (i + 1) (ln + 1) ll acc) false (lx τ kX kB txt kL kD kC (i + 1) (ln + 1) ll acc) :=
  TB.eqv (TB.cmp (ZdJ h.toLC rfl (by decide) rfl (by simp)) (TE.glob rfl) Zex) (decide_eq_false (by omega))
 exact TSs.set (TE.sign h rfl) (TSs.do (TE.move (d:=0) h rfl) (TSs.if_go tn (TSs.cons ta (TSs.if_go tm TSs.nil))))
end
section
variable {τ σ:List AO} {kX kB kL kD kC i d:Nat} {acc txt:List Int} {sc:Scope} {ρ:List (Option V)} {ln ll:Int}
theorem ZhM {a:Int} (h0:0 ≤ a) (h1:a < 256):TE (Zb 85 none) 0 (.callm (.cst (.bytes [97,98,102,110,114,116,118])) 31 [(.call 76 [(.lst [(.loc 0)])])]) [some (.int a),none] σ (.int (ZaI [97,98,102,110,114,116,118] a)) (σ ++ [.list (Za [a])]):=by
 have ho:Oct [a]:=fun q hq => by rw [List.mem_singleton] at hq;subst hq;exact ⟨h0,h1⟩
 exact TE.callm (TE.byt (ks:=[97,98,102,110,114,116,118])) (Zgw Zd2) (TEs.one (TE.blt (j:=2) rfl (by decide +kernel) rfl (TEs.one (TE.lst (TEs.one (TE.loc rfl)) (by simp))) (Z4 (ks:=[a]) (show IsL _ (.ref _) _ from by simp [IsL,Za]) ho (by simp)))) ZkN
theorem ZeV {a:Int} (h0:0 ≤ a) (h1:a < 256) (hf:ZaI [97,98,102,110,114,116,118] a = -1):OpV 1 (Fn (.ref 427)) [.int a] σ .none σ:=by
 have t:=ZhM (σ:=σ) h0 h1
 rw [hf] at t
 exact Zf (k:=1) (g:=[.list (Za [a])]) ZaC rfl rfl (TSs.set t (TSs.ret (TE.ite_t (TB.eqv (TB.cmp (TE.loc rfl) TE.int Zbs) (by decide)) TE.none))) (by simp [V.lt])
theorem ZlM:OpV 1 (Fn (.ref 427)) [.int 114] σ (.int 13) σ:=by
 have t:=ZhM (σ:=σ) (a:=114) (by decide) (by decide)
 rw [show ZaI [97,98,102,110,114,116,118] 114 = 4 by decide] at t
 exact Zf (k:=1) (g:=[.list (Za [114])]) ZaC rfl rfl (TSs.set t (TSs.ret (TE.ite_f (TB.eqv (TB.cmp (TE.loc rfl) TE.int Zbs) (by decide)) (TE.sub (TE.byt (ks:=[7,8,12,10,13,9,11])) (TE.loc rfl) (OpV.eqv (ZaP (a:=4) (by decide) (by decide) (by decide)) rfl))))) (by simp [V.lt])
noncomputable def Zqj:List MS:=[(.assign (.loc 1) (.bin .Sub (.bin .Add (.bin .Mult (.cst (.int (10))) (.loc 1)) (.attr (.loc 0) 22)) (.cst (.int (48))))),(.aug 2 .Add (.cst (.int (1)))),(.expr (.callm (.loc 0) 45 []))]
noncomputable def ZnC:ME:=.bool .And [(.cmp (.loc 2) [.Lt] [(.cst (.int (3)))]),(.call 41 [(.attr (.loc 0) 22)])]
theorem Ziz (h:LO τ kX kB kL kD kC txt) {m:Int} (hs:Z1 txt i = 48) (hm:m < 3):TB sc 1 ZnC [some (.ref kX),some (.int 0),some (.int m)] (lx τ kX kB txt kL kD kC i ln ll acc) true (lx τ kX kB txt kL kD kC i ln ll acc) ∧
  TSs sc 1 Zqj [some (.ref kX),some (.int 0),some (.int m)] (lx τ kX kB txt kL kD kC i ln ll acc) (.next [some (.ref kX),some (.int 0),some (.int (m + 1))]) (lx τ kX kB txt kL kD kC (i + 1) ln ll acc):=by
 have ts:=TE.sign (sc:=sc) (d:=1) (i:=i) (sg:=Z1 txt i) (ln:=ln) (ll:=ll) (acc:=acc) (ρ:=[some (.ref kX),some (.int 0),some (.int m)]) h rfl
 rw [hs] at ts
 unfold lx
 rw [hs]
 refine ⟨TB.eqv (TB.bool (TBs.and' (TB.cmp (TE.loc rfl) TE.int Zbs) fun _ => TBs.and' (TB.val (TE.def rfl Zal (TEs.one ts) is_digit_lexer_ok)) fun _ => TBs.and_nil)) (by rw [decide_eq_true hm];rfl),?_⟩
 refine TSs.set (v:=.int 0) (TE.eqv (TE.bin (TE.bin (TE.bin TE.int (TE.loc rfl) (ZjS (ZhF (by decide) (by decide)))) ts ZK) TE.int Z7) (by rfl)) ?_
 exact TSs.cons (TS.aug (r:=.int (m + 1)) rfl TE.int Zh2) (TSs.do (TE.move (d:=0) h rfl) TSs.nil)
theorem Zdv (h:LO τ kX kB kL kD kC txt) (h0:Z1 txt i = 48) (h1:Z1 txt (i + 1) = 48) (h2:Z1 txt (i + 2) = 48) (hl:acc.length ≤ 100000):OpV 2 (Fn (.ref 658)) [.ref kX] (lx τ kX kB txt kL kD kC i ln ll acc) .none (lx τ kX kB txt kL kD kC (i + 3) ln ll (acc ++ [0])):=by
 refine Zdt (k:=2) (g:=[]) (o:=.next [some (.ref kX),some (.int 0),some (.int 3)]) ZaE rfl rfl h.lt ?_ rfl (by simp [V.lt])
 rw [List.append_nil]
 obtain ⟨a1,a2⟩:=Ziz (sc:=Zb 89 (some 26)) (ln:=ln) (ll:=ll) (acc:=acc) h (m:=0) h0 (by decide)
 obtain ⟨b1,b2⟩:=Ziz (sc:=Zb 89 (some 26)) (ln:=ln) (ll:=ll) (acc:=acc) h (m:=1) h1 (by decide)
 obtain ⟨c1,c2⟩:=Ziz (sc:=Zb 89 (some 26)) (ln:=ln) (ll:=ll) (acc:=acc) h (m:=2) h2 (by decide)
 have e:TB (Zb 89 (some 26)) 1 ZnC [some (.ref kX),some (.int 0),some (.int 3)] (lx τ kX kB txt kL kD kC (i + 3) ln ll acc) false (lx τ kX kB txt kL kD kC (i + 3) ln ll acc):=TB.bool (TBs.and_f (TB.eqv (TB.cmp (TE.loc rfl) TE.int Zbs) (by decide)))
 refine TSs.cons (TS.pack (is:=[1,2]) (vs:=[.int 0,.int 0]) (TEs.cons TE.int (TEs.one TE.int)) rfl (.inr rfl) rfl (by decide) (by simp)) ?_
 refine TSs.cons (TS.while (Wh.step a1 a2 (Wh.step b1 b2 (Wh.step c1 c2 (Wh.done e))))) ?_
 exact TSs.if_go (TB.eqv (TB.cmp (TE.loc rfl) TE.int ZbW) (by decide)) (TSs.do (TE.keep (d:=0) h rfl (TE.loc rfl) (by decide) (by decide) hl) TSs.nil)
theorem ZgG (h:LO τ kX kB kL kD kC txt) {r:List (Option V)} (hn:Z1 txt i ≠ -1):TB sc d (.cmp (.attr (.loc 0) 22) [.Eq] [(.glob 49)]) (some (.ref kX) :: r) (lx τ kX kB txt kL kD kC i ln ll acc) false (lx τ kX kB txt kL kD kC i ln ll acc) :=
 TB.eqv (TB.cmp (TE.sign h rfl) (TE.glob rfl) op_eq) (beq_eq_false_iff_ne.mpr hn)
theorem ZhN (h:LO τ kX kB kL kD kC txt) {r:List (Option V)} {b:Bool} (hn:ZfQ (Z1 txt i) = b):TB sc (d + 1) (.call 43 [(.attr (.loc 0) 22)]) (some (.ref kX) :: r) (lx τ kX kB txt kL kD kC i ln ll acc) b (lx τ kX kB txt kL kD kC i ln ll acc) :=
 TB.eqv (TB.val (TE.def rfl Za3 (TEs.one (TE.sign h rfl)) (is_newline_ok.more (by omega)))) hn
theorem ZnD (h:LO τ kX kB kL kD kC txt) {r:List (Option V)} {b:Bool} (hn:Za7 (Z1 txt i) = b):TB sc (d + 1) (.call 41 [(.attr (.loc 0) 22)]) (some (.ref kX) :: r) (lx τ kX kB txt kL kD kC i ln ll acc) b (lx τ kX kB txt kL kD kC i ln ll acc) :=
 TB.eqv (TB.val (TE.def rfl Zal (TEs.one (TE.sign h rfl)) (is_digit_lexer_ok.more (by omega)))) hn
theorem ZlN (h:LO τ kX kB kL kD kC txt) (hs:Z1 txt i = 10) (hn:ZfQ (Z1 txt (i + 1)) = false) (hln:ln < 1000000) (hl:acc.length ≤ 100000):OpV 3 (Fn (.ref 651)) [.ref kX] (lx τ kX kB txt kL kD kC i ln ll acc) .none (lx τ kX kB txt kL kD kC (i + 1) (ln + 1) ll (acc ++ [10])):=by
 refine Zdt (k:=1) (g:=[]) (o:=.ret .none) ZM rfl rfl h.lt ?_ rfl (by simp [V.lt])
 rw [List.append_nil]
 refine TSs.if_go (ZgG h (by rw [hs];decide)) (TSs.if_ret (ZhN (d:=1) h (by rw [hs];rfl)) (TSs.do (TE.keep (d:=1) h rfl (TE.glob rfl) (by decide) (by decide) hl) (TSs.do (v:=.none) ?_ (TSs.stop TS.ret0 trivial))))
 exact ZbC h.toLC rfl (by decide) rfl Zbb TEs.nil (Zjo h hn hln)
theorem ZnE (h:LO τ kX kB kL kD kC txt) (h0:Z1 txt i = 48) (h1:Z1 txt (i + 1) = 48) (h2:Z1 txt (i + 2) = 48) (hl:acc.length ≤ 100000):OpV 3 (Fn (.ref 651)) [.ref kX] (lx τ kX kB txt kL kD kC i ln ll acc) .none (lx τ kX kB txt kL kD kC (i + 3) ln ll (acc ++ [0])):=by
 refine Zdt (k:=1) (g:=[]) (o:=.ret .none) ZM rfl rfl h.lt ?_ rfl (by simp [V.lt])
 rw [List.append_nil]
 refine TSs.if_go (ZgG h (by rw [h0];decide)) (TSs.if_go (ZhN (d:=1) h (by rw [h0];rfl)) (TSs.if_ret (ZnD (d:=1) h (by rw [h0];rfl)) (TSs.do (v:=.none) ?_ (TSs.stop TS.ret0 trivial))))
 exact ZbC h.toLC rfl (by decide) rfl ZaE TEs.nil (Zdv h h0 h1 h2 hl)
theorem Zdw (h:LO τ kX kB kL kD kC txt) {a:Int} {v:V} {b:Int} (hs:Z1 txt i = a) (h0:0 ≤ a) (h1:a < 256) (hn:ZfQ a = false) (hd:Za7 a = false) (he:OpV 1 (Fn (.ref 427)) [.int a] (lx τ kX kB txt kL kD kC i ln ll acc) v (lx τ kX kB txt kL kD kC i ln ll acc))
  (hv:(v = .none ∧ b = a) ∨ v = .int b) (hb0:0 ≤ b) (hb1:b < 256) (hl:acc.length ≤ 100000):OpV 3 (Fn (.ref 651)) [.ref kX] (lx τ kX kB txt kL kD kC i ln ll acc) .none (lx τ kX kB txt kL kD kC (i + 1) ln ll (acc ++ [b])):=by
 refine Zdt (k:=1) (g:=[]) (o:=.next [some (.ref kX),some v]) ZM rfl rfl h.lt ?_ rfl (by simp [V.lt])
 rw [List.append_nil]
 have ts:∀ {ρ:List (Option V)},ρ[0]? = some (some (.ref kX)) → TE (Zb 89 (some 25)) 2 (.attr (.loc 0) 22) ρ (lx τ kX kB txt kL kD kC i ln ll acc) (.int a) (lx τ kX kB txt kL kD kC i ln ll acc):=fun hj => by
  have:=TE.sign (sc:=Zb 89 (some 25)) (d:=2) (i:=i) (sg:=Z1 txt i) (ln:=ln) (ll:=ll) (acc:=acc) h hj
  rw [hs] at this
  unfold lx
  rw [hs]
  exact this
 refine TSs.if_go (ZgG h (by rw [hs];omega)) (TSs.if_go (ZhN (d:=1) h (by rw [hs];exact hn)) (TSs.if_go (ZnD (d:=1) h (by rw [hs];exact hd)) (TSs.set (TE.def rfl ZaC (TEs.one (ts rfl)) (he.more (by decide))) (TSs.do (TE.keep (d:=1) h rfl (a:=b) ?_ hb0 hb1 hl) (TSs.do (TE.move (d:=1) h rfl) TSs.nil)))))
 rcases hv with ⟨rfl,rfl⟩ | rfl
 ·exact TE.ite_t (TB.isN (p:=.none) (TE.loc rfl) (by simp)) (ts rfl)
 ·exact TE.ite_f (TB.isN (p:=.int b) (TE.loc rfl) (by simp)) (TE.loc rfl)
end
theorem ZJ {txt:List Int} {i:Nat} {a:Int} {l:List Int} (h:txt.drop i = a :: l):Z1 txt i = a ∧ txt.drop (i + 1) = l:=by
 have h1:txt[i]? = some a:=by
  have:(txt.drop i)[0]? = some a:=by rw [h];rfl
  rwa [List.getElem?_drop,Nat.add_zero] at this
 refine ⟨?_,?_⟩
 ·unfold Z1
  rw [if_pos (k_lt' h1),List.getD_eq_getElem?_getD,h1];rfl
 ·rw [← List.drop_drop,h];rfl
where
 k_lt' {i:Nat} {a:Int} {txt:List Int} (h:txt[i]? = some a):i < txt.length:=by
  exact (List.getElem?_eq_some_iff.mp h).1
theorem ZoR {txt:List Int} {i:Nat} (h:txt.drop i = []):Z1 txt i = -1:=by
 unfold Z1
 rw [if_neg]
 rw [List.drop_eq_nil_iff] at h
 omega
section
variable {τ σ:List AO} {kX kB kL kD kC i d:Nat} {acc txt:List Int} {sc:Scope} {ρ:List (Option V)} {ln ll:Int}
noncomputable def Zks:ME:=.cmp (.attr (.loc 0) 22) [.NotEq] [(.loc 1)]
noncomputable def ZiA:List MS:=[(.ife (.cmp (.attr (.loc 0) 22) [.Eq] [(.glob 49)]) [(.expr (.callm (.loc 0) 44 [(.cst (.bytes [117,110,102,105,110,105,115,104,101,100,32,115,116,114,105,110,103])),(.glob 50)]))] [(.ife (.call 43 [(.attr (.loc 0) 22)]) [(.expr (.callm (.loc 0) 44 [(.cst (.bytes [117,110,102,105,110,105,115,104,101,100,32,115,116,114,105,110,103])),(.glob 51)]))] [(.ife (.cmp (.attr (.loc 0) 22) [.Eq] [(.glob 57)]) [(.expr (.callm (.loc 0) 45 [])),(.expr (.callm (.loc 0) 52 []))] [(.expr (.callm (.loc 0) 47 []))])])])]
theorem ZcU (h:LO τ kX kB kL kD kC txt) {a:Int} (hs:Z1 txt i = a) {b:Bool} (hb:(a != 34) = b):TB sc d Zks [some (.ref kX),some (.int 34)] (lx τ kX kB txt kL kD kC i ln ll acc) b (lx τ kX kB txt kL kD kC i ln ll acc) :=
 TB.eqv (TB.cmp (TE.sign h rfl) (TE.loc rfl) Zew) (by rw [hs];exact hb)
theorem ZeW (h:LO τ kX kB kL kD kC txt) (hs:Z1 txt i = 92) {σ':List AO} (he:OpV 3 (Fn (.ref 651)) [.ref kX] (lx τ kX kB txt kL kD kC (i + 1) ln ll acc) .none σ') :
  TSs sc 3 ZiA [some (.ref kX),some (.int 34)] (lx τ kX kB txt kL kD kC i ln ll acc) (.next [some (.ref kX),some (.int 34)]) σ':=by
 have t3:TB sc 3 (.cmp (.attr (.loc 0) 22) [.Eq] [(.glob 57)]) [some (.ref kX),some (.int 34)] (lx τ kX kB txt kL kD kC i ln ll acc) true (lx τ kX kB txt kL kD kC i ln ll acc) :=
  TB.eqv (TB.cmp (TE.sign h rfl) (TE.glob rfl) op_eq) (by rw [hs];rfl)
 refine TSs.if_else (ZgG h (by rw [hs];decide)) (TSs.if_else (ZhN (d:=2) h (by rw [hs];rfl)) (TSs.if_do t3 (TSs.do (TE.move (d:=2) h rfl) (TSs.do (v:=.none) ?_ TSs.nil)) TSs.nil) TSs.nil) TSs.nil
 exact ZbC h.toLC rfl (by decide) rfl ZM TEs.nil he
theorem ZnF (h:LO τ kX kB kL kD kC txt) {a:Int} (hs:Z1 txt i = a) (h0:0 ≤ a) (h1:a < 256) (hn:ZfQ a = false) (h92:a ≠ 92) (hl:acc.length ≤ 100000) :
  TSs sc 3 ZiA [some (.ref kX),some (.int 34)] (lx τ kX kB txt kL kD kC i ln ll acc) (.next [some (.ref kX),some (.int 34)]) (lx τ kX kB txt kL kD kC (i + 1) ln ll (acc ++ [a])):=by
 have t3:TB sc 3 (.cmp (.attr (.loc 0) 22) [.Eq] [(.glob 57)]) [some (.ref kX),some (.int 34)] (lx τ kX kB txt kL kD kC i ln ll acc) false (lx τ kX kB txt kL kD kC i ln ll acc) :=
  TB.eqv (TB.cmp (TE.sign h rfl) (TE.glob rfl) op_eq) (by rw [hs];exact beq_eq_false_iff_ne.mpr h92)
 have tk:=TE.keepMove (sc:=sc) (d:=1) (i:=i) (sg:=Z1 txt i) (ln:=ln) (ll:=ll) (acc:=acc) (ρ:=[some (.ref kX),some (.int 34)]) h rfl (by rw [hs];exact h0) (by rw [hs];exact h1) hl
 have e:lx τ kX kB txt kL kD kC (i + 1) ln ll (acc ++ [Z1 txt i]) = lx τ kX kB txt kL kD kC (i + 1) ln ll (acc ++ [a]):=by rw [hs]
 rw [e] at tk
 exact TSs.if_else (ZgG h (by rw [hs];omega)) (TSs.if_else (ZhN (d:=2) h (by rw [hs];exact hn)) (TSs.if_else t3 (TSs.do tk TSs.nil) TSs.nil) TSs.nil) TSs.nil
noncomputable def nls (x:Int):Int:=if x = 10 then 1 else 0
theorem ZgH {x:Int}:(x = 34 ∧ ZY x = [92,34]) ∨ (x = 92 ∧ ZY x = [92,92]) ∨ (x = 10 ∧ ZY x = [92,10]) ∨ (x = 13 ∧ ZY x = [92,114]) ∨ (x = 0 ∧ ZY x = [92,48,48,48]) ∨ (x ≠ 34 ∧ x ≠ 92 ∧ x ≠ 10 ∧ x ≠ 13 ∧ x ≠ 0 ∧ ZY x = [x]):=by
 by_cases h1:x = 34
 ·subst h1;exact .inl ⟨rfl,by decide⟩
 by_cases h2:x = 92
 ·subst h2;exact .inr (.inl ⟨rfl,by decide⟩)
 by_cases h3:x = 10
 ·subst h3;exact .inr (.inr (.inl ⟨rfl,by decide⟩))
 by_cases h4:x = 13
 ·subst h4;exact .inr (.inr (.inr (.inl ⟨rfl,by decide⟩)))
 by_cases h5:x = 0
 ·subst h5;exact .inr (.inr (.inr (.inr (.inl ⟨rfl,by decide⟩))))
 ·refine .inr (.inr (.inr (.inr (.inr ⟨h1,h2,h3,h4,h5,?_⟩))))
  unfold ZY
  rw [if_neg (by simp [h1,h2,h3]),if_neg (by simp [h4]),if_neg (by simp [h5])]
theorem Zjp:∀ (ks:List Int) {l:List Int},ks.flatMap ZY ++ [34] = l → ∃ a r,l = a :: r ∧ ZfQ a = false
 | [],_,rfl => ⟨34,[],rfl,rfl⟩
 | x :: ks,_,rfl => by
  rw [List.flatMap_cons,List.append_assoc]
  rcases ZgH (x:=x) with ⟨_,e⟩ | ⟨_,e⟩ | ⟨_,e⟩ | ⟨_,e⟩ | ⟨_,e⟩ | ⟨_,_,h3,h4,_,e⟩ <;> rw [e]
  ·exact ⟨_,_,rfl,rfl⟩
  ·exact ⟨_,_,rfl,rfl⟩
  ·exact ⟨_,_,rfl,rfl⟩
  ·exact ⟨_,_,rfl,rfl⟩
  ·exact ⟨_,_,rfl,rfl⟩
  ·exact ⟨x,_,rfl,by unfold ZfQ;simp [h3,h4]⟩
theorem ZoS (h:LO τ kX kB kL kD kC txt) {x:Int} {ks:List Int} (hd:txt.drop i = ZY x ++ (ks.flatMap ZY ++ [34])) (h0:0 ≤ x) (h1:x < 256) (hl:acc.length ≤ 100000) (hln:ln < 1000000) :
  TB sc 3 Zks [some (.ref kX),some (.int 34)] (lx τ kX kB txt kL kD kC i ln ll acc) true (lx τ kX kB txt kL kD kC i ln ll acc) ∧
  TSs sc 3 ZiA [some (.ref kX),some (.int 34)] (lx τ kX kB txt kL kD kC i ln ll acc) (.next [some (.ref kX),some (.int 34)]) (lx τ kX kB txt kL kD kC (i + (ZY x).length) (ln + nls x) ll (acc ++ [x])):=by
 obtain ⟨a,r,hr,hnl⟩:=Zjp ks rfl
 rcases ZgH (x:=x) with ⟨rfl,e⟩ | ⟨rfl,e⟩ | ⟨rfl,e⟩ | ⟨rfl,e⟩ | ⟨rfl,e⟩ | ⟨n1,n2,n3,n4,n5,e⟩ <;> rw [e] at hd ⊢
 ·obtain ⟨s0,d1⟩:=ZJ hd
  obtain ⟨s1,d2⟩:=ZJ d1
  refine ⟨ZcU h s0 rfl,?_⟩
  have:=ZeW (sc:=sc) h s0 (Zdw (ln:=ln) (ll:=ll) (acc:=acc) h s1 (b:=34) (by decide) (by decide) rfl rfl (ZeV (by decide) (by decide) (by decide)) (.inl ⟨rfl,rfl⟩) (by decide) (by decide) hl)
  rwa [show ln + nls 34 = ln by simp [nls]]
 ·obtain ⟨s0,d1⟩:=ZJ hd
  obtain ⟨s1,d2⟩:=ZJ d1
  refine ⟨ZcU h s0 rfl,?_⟩
  have:=ZeW (sc:=sc) h s0 (Zdw (ln:=ln) (ll:=ll) (acc:=acc) h s1 (b:=92) (by decide) (by decide) rfl rfl (ZeV (by decide) (by decide) (by decide)) (.inl ⟨rfl,rfl⟩) (by decide) (by decide) hl)
  rwa [show ln + nls 92 = ln by simp [nls]]
 ·obtain ⟨s0,d1⟩:=ZJ hd
  obtain ⟨s1,d2⟩:=ZJ d1
  rw [hr] at d2
  obtain ⟨s2,_⟩:=ZJ d2
  exact ⟨ZcU h s0 rfl,ZeW h s0 (ZlN h s1 (by rw [s2];exact hnl) hln hl)⟩
 ·obtain ⟨s0,d1⟩:=ZJ hd
  obtain ⟨s1,d2⟩:=ZJ d1
  refine ⟨ZcU h s0 rfl,?_⟩
  have:=ZeW (sc:=sc) h s0 (Zdw (ln:=ln) (ll:=ll) (acc:=acc) h s1 (b:=13) (by decide) (by decide) rfl rfl ZlM (.inr rfl) (by decide) (by decide) hl)
  rwa [show ln + nls 13 = ln by simp [nls]]
 ·obtain ⟨s0,d1⟩:=ZJ hd
  obtain ⟨s1,d2⟩:=ZJ d1
  obtain ⟨s2,d3⟩:=ZJ d2
  obtain ⟨s3,d4⟩:=ZJ d3
  refine ⟨ZcU h s0 rfl,?_⟩
  have:=ZeW (sc:=sc) h s0 (ZnE (ln:=ln) (ll:=ll) (acc:=acc) h s1 s2 s3 hl)
  rwa [show ln + nls 0 = ln by simp [nls]]
 ·obtain ⟨s0,d1⟩:=ZJ hd
  refine ⟨ZcU h s0 (by simpa [bne] using n1),?_⟩
  have:=ZnF (sc:=sc) (ln:=ln) (ll:=ll) (acc:=acc) h s0 h0 h1 (by unfold ZfQ;simp [n3,n4]) n2 hl
  rwa [show ln + nls x = ln by simp [nls,n3]]
theorem ZpC (h:LO τ kX kB kL kD kC txt):∀ (ks:List Int) (i:Nat) (ln:Int) (acc:List Int),txt.drop i = ks.flatMap ZY ++ [34] → Oct ks → acc.length + ks.length ≤ 100000 → ln + ks.length < 1000000 → ∃ n ln',
  Wh sc 3 Zks ZiA n [some (.ref kX),some (.int 34)] (lx τ kX kB txt kL kD kC i ln ll acc) (.next [some (.ref kX),some (.int 34)]) (lx τ kX kB txt kL kD kC (i + (ks.flatMap ZY).length) ln' ll (acc ++ ks))
 | [],i,ln,acc,hd,_,_,_ => by
  obtain ⟨s0,_⟩:=ZJ (show txt.drop i = 34 :: [] from hd)
  refine ⟨0,ln,?_⟩
  rw [List.append_nil]
  exact .done (ZcU h s0 rfl)
 | x :: ks,i,ln,acc,hd,ho,hl,hn => by
  rw [List.length_cons] at hl hn
  rw [List.flatMap_cons,List.append_assoc] at hd
  have hx:=ho x (by simp)
  obtain ⟨t1,t2⟩:=ZoS (sc:=sc) (ll:=ll) (ln:=ln) (acc:=acc) h hd hx.1 hx.2 (by omega) (by omega)
  have hnl:nls x ≤ 1:=by unfold nls;split <;> decide
  have hd':txt.drop (i + (ZY x).length) = ks.flatMap ZY ++ [34]:=by rw [← List.drop_drop,hd,List.drop_left]
  obtain ⟨n,ln',hw⟩:=ZpC h ks (i + (ZY x).length) (ln + nls x) (acc ++ [x]) hd' (fun y hy => ho y (by simp [hy])) (by rw [List.length_append];simp only [List.length_cons,List.length_nil];omega) (by omega)
  refine ⟨n + 1,ln',.step t1 t2 ?_⟩
  rw [List.flatMap_cons,List.length_append,← Nat.add_assoc,show acc ++ x :: ks = acc ++ [x] ++ ks by simp]
  exact hw
end
section
variable {τ σ:List AO} {kX kB kL kD kC i d:Nat} {acc txt ks:List Int} {sc:Scope} {ρ:List (Option V)} {ln ll:Int} {F:List (Nat × V)}
theorem Zkt {A:Addr} {n k:Nat} {ms:List MS} {vs:List V} {v:V} {o:Out} {σ₁ σ₂ e g:List AO} (hc:Zc A sc n ms) (hn:vs.length = n) (hρ:ρ = vs.map some ++ List.replicate k none) (hb:TSs sc d ms ρ σ₁ o ((σ₂ ++ e) ++ g)) (hv:o.gives v) (hlen:σ₂.length = σ₁.length)
  (hl:v.lt (σ₂ ++ e).length) (ho:∀ (k:Nat) (ao:AO),σ₂[k]? = some ao → σ₁[k]? = some ao ∨ ao.lt σ₂.length) (he:∀ ao ∈ e,ao.lt (σ₂ ++ e).length):OpV (d + 1) (Fn (.ref A)) vs σ₁ v (σ₂ ++ e):=by
 refine ZcM hc hn hρ hb hv (by rw [List.length_append];omega) hl fun k ao h => ?_
 rw [List.getElem?_append] at h
 split at h
 ·rcases ho k ao h with q | q
  ·exact .inl q
  ·exact .inr (AO.lt_mono (by simp) q)
 ·exact .inr (he ao (List.mem_of_getElem? h))
noncomputable abbrev ZgI (ks:List Int):AO:=.inst 458 [(15,.int 286),(16,.bytes ks)]
theorem ZlO {a b:Int}:ZbM (a :: (ks ++ [b])) (some ((1:Nat):Int)) (some (((a :: (ks ++ [b])).length:Int) - 1)) = ks:=by
 have e:((a :: (ks ++ [b])).length:Int) - 1 = ((ks.length + 1:Nat):Int):=by simp
 rw [e,ZkT]
 simp
theorem ZgJ (h:LO τ kX kB kL kD kC txt) (hd:txt.drop i = 34 :: (ks.flatMap ZY ++ [34])) (ho:Oct ks) (hl:ks.length ≤ 10000) (hn:ln + ks.length < 1000000):∃ ln',OpV 4 (Fn (.ref 644)) [.ref kX,.int 34] (lx τ kX kB txt kL kD kC i ln ll []) (.ref (τ.length + 1))
  (lx τ kX kB txt kL kD kC (i + (ks.flatMap ZY).length + 2) ln' ll (34 :: (ks ++ [34])) ++ [.barr ks,ZgI ks]):=by
 obtain ⟨s0,d1⟩:=ZJ hd
 obtain ⟨n,ln',hw⟩:=ZpC (sc:=Zb 89 (some 24)) (ll:=ll) h ks (i + 1) ln [34] d1 ho (by simp;omega) hn
 refine ⟨ln',?_⟩
 have hend:txt.drop (i + 1 + (ks.flatMap ZY).length) = [34]:=by rw [← List.drop_drop,d1,List.drop_left]
 obtain ⟨s1,_⟩:=ZJ hend
 have k1:=TE.keepMove (sc:=Zb 89 (some 24)) (d:=1) (i:=i) (sg:=Z1 txt i) (ln:=ln) (ll:=ll) (acc:=[]) (ρ:=[some (.ref kX),some (.int 34)]) h rfl (by rw [s0];decide) (by rw [s0];decide) (by simp)
 have e1:lx τ kX kB txt kL kD kC (i + 1) ln ll ([] ++ [Z1 txt i]) = lx τ kX kB txt kL kD kC (i + 1) ln ll [34]:=by rw [s0];rfl
 rw [e1] at k1
 have k2:=TE.keepMove (sc:=Zb 89 (some 24)) (d:=1) (i:=i + 1 + (ks.flatMap ZY).length) (sg:=Z1 txt (i + 1 + (ks.flatMap ZY).length)) (ln:=ln') (ll:=ll) (acc:=[34] ++ ks) (ρ:=[some (.ref kX),some (.int 34)]) h rfl (by rw [s1];decide) (by rw [s1];decide) (by simp;omega)
 have e2:lx τ kX kB txt kL kD kC (i + 1 + (ks.flatMap ZY).length + 1) ln' ll ([34] ++ ks ++ [Z1 txt (i + 1 + (ks.flatMap ZY).length)]) = lx τ kX kB txt kL kD kC (i + (ks.flatMap ZY).length + 2) ln' ll (34 :: (ks ++ [34])):=by
  rw [s1,show i + 1 + (ks.flatMap ZY).length + 1 = i + (ks.flatMap ZY).length + 2 by omega]
  rfl
 rw [e2] at k2
 refine Zkt (k:=0) (g:=[]) (o:=.ret (.ref (τ.length + 1))) ZaD rfl rfl ?_ rfl (by rw [ZaM,ZaM]) (by rw [List.length_append,ZaM];simp [V.lt]) (Zpx h.lt) ?_
 ·rw [List.append_nil]
  refine TSs.do k1 (TSs.cons (TS.while hw) (TSs.do k2 (TSs.ret ?_)))
  have gb:∀ {σ':List AO},σ' = lx τ kX kB txt kL kD kC (i + (ks.flatMap ZY).length + 2) ln' ll (34 :: (ks ++ [34])) → TE (Zb 89 (some 24)) 3 (.attr (.loc 0) 25) [some (.ref kX),some (.int 34)] σ' (.ref kB) σ':=fun e => by subst e;exact ZdJ h.toLC rfl (by decide) rfl (by simp)
  have hB:=h.toLC.B (F:=Zi txt kL kD (i + (ks.flatMap ZY).length + 2) (Z1 txt (i + (ks.flatMap ZY).length + 2)) ln' ll kB kC) (acc:=34 :: (ks ++ [34]))
  have ts:=TE.slc (sc:=Zb 89 (some 24)) (d:=3) (gb rfl) (TO.some (TE.int (i:=((1:Nat):Int)))) (TO.some (TE.bin (TE.blt (j:=1) rfl rfl rfl (TEs.one (gb rfl)) (Zhz hB (by simp;omega))) (TE.int (i:=1)) Z7)) (Zlq hB .int .int (by simp;omega))
  rw [ZlO] at ts
  have tb:=TE.blt (j:=2) rfl (by decide +kernel) rfl (TEs.one ts) (Zfx (ks:=ks) Zm (by omega))
  have tt:=TE.cls (sc:=Zb 89 (some 24)) (d:=3) (f:=47) rfl (.tail _ (.tail _ (.tail _ (.head _)))) (TEs.cons (TE.glob (i:=51) rfl) (TEs.one tb)) (Zfh (d:=2) (by simp [V.lt]) (by simp [V.lt]))
  rw [List.append_assoc] at tt
  refine TE.eqv tt ?_
  rw [List.length_append,ZaM]
  rfl
 ·intro ao hao
  simp only [List.mem_cons,List.not_mem_nil,or_false] at hao
  rcases hao with rfl | rfl
  ·trivial
  ·simp [AO.lt,Fs.lt,V.lt]
theorem ZnG (h:LC τ kX kB kL) (hF:Fs.lt (τ.length + 1) (ZC 25 (.ref τ.length) F)) (hl:F.length ≤ 100):OpV 1 (Fn (.ref 546)) [.ref kX] (LX τ kX kB F acc) .none (LX τ kX kB (ZC 25 (.ref τ.length) F) acc ++ [.barr []]):=by
 have ta:TA (Zb 89 (some 10)) 0 (.attr 0 25) (.ref τ.length) [some (.ref kX)] (LX τ kX kB F acc ++ [.barr []]) [some (.ref kX)] (LX τ kX kB (ZC 25 (.ref τ.length) F) acc ++ [.barr []]):=by
  have hx:(LX τ kX kB F acc ++ [AO.barr []])[kX]? = some (.inst 661 F):=by rw [List.getElem?_append_left (Zas h.X)];exact h.X
  have:=TA.attr (sc:=Zb 89 (some 10)) (d:=0) (i:=0) (v:=.ref τ.length) (ρ:=[some (.ref kX)]) rfl hx (.tail _ (.tail _ (.tail _ (.tail _ (.head _))))) (n:=25) (by decide) hl
  rwa [List.set_append_left _ _ (Zas h.X),h.setX] at this
 have tb:TE (Zb 89 (some 10)) 0 (.call 77 []) [some (.ref kX)] (LX τ kX kB F acc) (.ref τ.length) (LX τ kX kB F acc ++ [.barr []]):=by
  have:=TE.blt (sc:=Zb 89 (some 10)) (d:=0) (ρ:=[some (.ref kX)]) (j:=3) rfl (by decide +kernel) rfl TEs.nil (ZdE (σ:=LX τ kX kB F acc))
  rwa [ZaM] at this
 refine ZcM (k:=0) (g:=[]) (o:=.next [some (.ref kX)]) Zb1 rfl rfl ?_ rfl (by simp [ZaM]) (by simp [V.lt]) fun k ao e => ?_
 ·rw [List.append_nil]
  exact TSs.cons (TS.assign tb ta) TSs.nil
 ·rw [List.getElem?_append] at e
  split at e
  ·by_cases q1:k = kB
   ·subst q1
    have:k < τ.length:=h.ltB
    rw [h.B] at e
    cases e
    exact .inr trivial
   ·by_cases q2:k = kX
    ·subst q2
     rw [h.X] at e
     cases e
     exact .inr (by rw [List.length_append,ZaM];exact hF)
    ·unfold LX at e ⊢
     rw [List.getElem?_set_ne (Ne.symm q1),List.getElem?_set_ne (Ne.symm q2)] at e ⊢
     exact .inl e
  ·have:=List.mem_of_getElem? e
   rw [List.mem_singleton] at this
   subst this
   exact .inr trivial
end
structure Keep (σ σ':List AO):Prop where
 len:σ.length ≤ σ'.length
 old:∀ (k:Nat) (ao:AO),σ'[k]? = some ao → σ[k]? = some ao ∨ ao.lt σ'.length
theorem Keep.refl (σ:List AO):Keep σ σ:=⟨Nat.le_refl _,fun _ _ h => .inl h⟩
theorem Keep.trans {σ σ' σ'':List AO} (a:Keep σ σ') (b:Keep σ' σ''):Keep σ σ'':=by
 refine ⟨Nat.le_trans a.len b.len,fun k ao h => ?_⟩
 rcases b.old k ao h with q | q
 ·rcases a.old k ao q with z | z
  ·exact .inl z
  ·exact .inr (AO.lt_mono b.len z)
 ·exact .inr q
theorem Keep.app {σ e:List AO} (he:∀ ao ∈ e,ao.lt (σ ++ e).length):Keep σ (σ ++ e):=by
 refine ⟨by simp,fun k ao h => ?_⟩
 rw [List.getElem?_append] at h
 split at h
 ·exact .inl h
 ·exact .inr (he ao (List.mem_of_getElem? h))
theorem Keep.set {σ:List AO} {k:Nat} {x:AO} (hx:x.lt σ.length):Keep σ (σ.set k x):=by
 refine ⟨by simp,fun j ao h => ?_⟩
 by_cases q:j = k
 ·subst q
  have:=Zas h
  rw [List.length_set] at this
  rw [List.getElem?_set_self this] at h
  cases h
  exact .inr (by rw [List.length_set];exact hx)
 ·rw [List.getElem?_set_ne (Ne.symm q)] at h
  exact .inl h
theorem ZeX {A:Addr} {sc:Scope} {n k d:Nat} {ms:List MS} {vs:List V} {v:V} {o:Out} {ρ:List (Option V)} {σ σ' g:List AO} (hc:Zc A sc n ms) (hn:vs.length = n) (hρ:ρ = vs.map some ++ List.replicate k none) (hb:TSs sc d ms ρ σ o (σ' ++ g)) (hv:o.gives v) (hl:v.lt σ'.length) (hk:Keep σ σ') :
  OpV (d + 1) (Fn (.ref A)) vs σ v σ':=ZcM hc hn hρ hb hv hk.len hl hk.old
theorem ZgK {σ:List AO} {k:Nat} {x:AO} (h:σ[k]? = some x):σ.set k x = σ:=by
 apply List.ext_getElem?
 intro j
 by_cases q:j = k
 ·subst q
  rw [List.getElem?_set_self (Zas h),h]
 ·rw [List.getElem?_set_ne (Ne.symm q)]
section
variable {τ σ:List AO} {kX kB kL kD kC i d:Nat} {acc txt ks:List Int} {sc:Scope} {ρ:List (Option V)} {ln ll:Int} {F:List (Nat × V)}
structure LS (σ:List AO) (kX kB kL kD kC:Nat) (txt:List Int) (i:Nat) (ln ll:Int) (acc:List Int):Prop extends LO σ kX kB kL kD kC txt where
 atX:σ[kX]? = some (.inst 661 (Zi txt kL kD i (Z1 txt i) ln ll kB kC))
 atB:σ[kB]? = some (.barr acc)
theorem LS.eq (h:LS σ kX kB kL kD kC txt i ln ll acc):lx σ kX kB txt kL kD kC i ln ll acc = σ:=by
 unfold lx LX
 rw [ZgK h.atX,ZgK h.atB]
theorem ZoT (h:LO σ kX kB kL kD kC txt) {sg:Int}:Keep σ (LX σ kX kB (Zi txt kL kD i sg ln ll kB kC) acc) :=
 (Keep.set (x:=.inst 661 (Zi txt kL kD i sg ln ll kB kC)) h.lt).trans (Keep.set trivial)
theorem Zjq {k:Nat} (h1:k ≠ kX) (h2:k ≠ kB):(LX σ kX kB F acc)[k]? = σ[k]?:=by
 unfold LX
 rw [List.getElem?_set_ne (Ne.symm h2),List.getElem?_set_ne (Ne.symm h1)]
noncomputable abbrev τ2 (σ:List AO) (kX:Nat) (txt:List Int) (kL kD kC i:Nat) (ln ll:Int):List AO:=σ.set kX (.inst 661 (Zi txt kL kD i (Z1 txt i) ln ll σ.length kC)) ++ [.barr []]
theorem LS.clear (h:LS σ kX kB kL kD kC txt i ln ll acc):OpV 1 (Fn (.ref 546)) [.ref kX] σ .none (τ2 σ kX txt kL kD kC i ln ll) ∧ LS (τ2 σ kX txt kL kD kC i ln ll) kX σ.length kL kD kC txt i ln ll []:=by
 obtain ⟨fs,l1,l2⟩:=h.lim
 have hlt:Fs.lt (σ.length + 1) (Zi txt kL kD i (Z1 txt i) ln ll σ.length kC):=by
  have:=Zas l1
  have:=h.ltD
  have:=h.ltC
  exact Zcn (by omega) (by omega) (by omega) (by omega)
 have c:=ZnG (acc:=acc) (F:=Zi txt kL kD i (Z1 txt i) ln ll kB kC) h.toLC hlt (by simp [Zi])
 have e1:LX σ kX kB (Zi txt kL kD i (Z1 txt i) ln ll kB kC) acc = σ:=h.eq
 have e2:LX σ kX kB (ZC 25 (.ref σ.length) (Zi txt kL kD i (Z1 txt i) ln ll kB kC)) acc = σ.set kX (.inst 661 (Zi txt kL kD i (Z1 txt i) ln ll σ.length kC)):=by
  unfold LX
  rw [ZgK]
  ·rfl
  ·rw [List.getElem?_set_ne h.ne];exact h.atB
 rw [e1,e2] at c
 refine ⟨c,⟨⟨⟨?_,?_,?_,?_,h.neX,?_⟩,?_,?_,h.oct,h.len⟩,?_,?_⟩⟩
 ·have:=h.ltX;simp;omega
 ·simp
 ·exact Nat.ne_of_lt h.ltX
 ·refine ⟨fs,?_,l2⟩
  rw [List.getElem?_append_left (by simp;exact Zas l1),List.getElem?_set_ne (Ne.symm h.neX)]
  exact l1
 ·exact Nat.ne_of_lt (Zas l1)
 ·have:=h.ltD;simp;omega
 ·have:=h.ltC;simp;omega
 ·rw [List.getElem?_append_left (by simp;exact h.ltX),List.getElem?_set_self h.ltX]
 ·have:(σ.set kX (.inst 661 (Zi txt kL kD i (Z1 txt i) ln ll σ.length kC))).length = σ.length:=by simp
  rw [List.getElem?_append_right (by rw [this];exact Nat.le_refl _),this,Nat.sub_self]
  rfl
theorem Zjr (h:LS σ kX kB kL kD kC txt i ln ll acc):Keep σ (τ2 σ kX txt kL kD kC i ln ll):=by
 obtain ⟨fs,l1,l2⟩:=h.lim
 have h1:=Zas l1
 have h2:=h.ltD
 have h3:=h.ltC
 refine ⟨by simp,fun k ao e => ?_⟩
 rw [List.getElem?_append] at e
 split at e
 ·by_cases q:k = kX
  ·subst q
   rw [List.getElem?_set_self h.ltX] at e
   cases e
   exact .inr (Zcn (by simp;omega) (by simp;omega) (by simp) (by simp;omega))
  ·rw [List.getElem?_set_ne (Ne.symm q)] at e
   exact .inl e
 ·have:=List.mem_of_getElem? e
  rw [List.mem_singleton] at this
  subst this
  exact .inr trivial
theorem ZhO {k:Nat} (h1:k ≠ kX) (h2:k < σ.length):(τ2 σ kX txt kL kD kC i ln ll)[k]? = σ[k]?:=by
 rw [List.getElem?_append_left (by simpa using h2),List.getElem?_set_ne (Ne.symm h1)]
theorem Zhq (h:LO τ kX kB kL kD kC txt) {a:Int} (hs:Z1 txt i = a) (hn:ZfQ a = false) (hb:Zou a = false) (hm:a ≠ 45):OpV 2 (Fn (.ref 567)) [.ref kX] (lx τ kX kB txt kL kD kC i ln ll acc) (.bool false) (lx τ kX kB txt kL kD kC i ln ll acc):=by
 refine Zf (k:=0) (g:=[]) ZaQ rfl rfl ?_ (by simp [V.lt])
 rw [List.append_nil]
 refine TSs.if_go (ZhN (d:=0) h (by rw [hs];exact hn)) (TSs.if_go (TB.eqv (TB.val (TE.def rfl Za9 (TEs.one (TE.sign h rfl)) ZeN)) (by rw [hs];exact hb)) (TSs.if_go ?_ (TSs.ret TE.tt)))
 exact TB.bool (TBs.and_f (TB.eqv (TB.cmp (TE.sign h rfl) (TE.glob rfl) op_eq) (by rw [hs];exact beq_eq_false_iff_ne.mpr hm)))
theorem Zjs (h:LS σ kX kB kL kD kC txt i ln ll acc) {a:Int} (hs:Z1 txt i = a) (hn:ZfQ a = false) (hb:Zou a = false) (hm:a ≠ 45) {ms:List MS} {o:Out} {σ':List AO}
  (hr:TSs (Zb 89 (some 12)) 4 ms [some (.ref kX),some (.int a)] (τ2 σ kX txt kL kD kC i ln ll) o σ'):TSs (Zb 89 (some 12)) 4 ((.expr (.callm (.loc 0) 48 [])) :: (.while (.callm (.loc 0) 50 []) [.pass]) :: (.assign (.loc 1) (.attr (.loc 0) 22)) :: ms) [some (.ref kX),none] σ o σ':=by
 obtain ⟨c,l2⟩:=h.clear
 have e1:LX σ kX kB (Zi txt kL kD i (Z1 txt i) ln ll kB kC) acc = σ:=h.eq
 have e2:LX (τ2 σ kX txt kL kD kC i ln ll) kX σ.length (Zi txt kL kD i (Z1 txt i) ln ll σ.length kC) [] = τ2 σ kX txt kL kD kC i ln ll:=l2.eq
 have t1:=ZbC (sc:=Zb 89 (some 12)) (d:=4) (ρ:=[some (.ref kX),none]) (F:=Zi txt kL kD i (Z1 txt i) ln ll kB kC) (acc:=acc) (as:=[]) (vs:=[]) (v:=.none) (σ':=τ2 σ kX txt kL kD kC i ln ll) h.toLC rfl (n:=48) (f:=546) (by decide) rfl Zb1 TEs.nil (by rw [e1];exact c.more (by decide))
 rw [e1] at t1
 have sb:=Zhq (ln:=ln) (ll:=ll) (acc:=[]) l2.toLO hs hn hb hm
 have t2:=ZbC (sc:=Zb 89 (some 12)) (d:=4) (ρ:=[some (.ref kX),none]) (as:=[]) (vs:=[]) l2.toLC rfl (n:=50) (f:=567) (by decide) (by rfl) ZaQ TEs.nil (sb.more (by decide))
 have t3:=TE.sign (sc:=Zb 89 (some 12)) (d:=4) (i:=i) (sg:=Z1 txt i) (ln:=ln) (ll:=ll) (acc:=[]) (ρ:=[some (.ref kX),none]) l2.toLO rfl
 unfold lx at t2
 rw [e2] at t2 t3
 rw [hs] at t3
 exact TSs.do t1 (TSs.cons (TS.while (.done (TB.val t2))) (TSs.set t3 hr))
end
section
variable {τ σ e:List AO} {kX kB kL kD kC i d:Nat} {acc txt ks:List Int} {sc:Scope} {ρ:List (Option V)} {ln ll:Int} {F:List (Nat × V)}
theorem LO.len_eq {τ':List AO} (h:LO τ kX kB kL kD kC txt) (hl:τ.length ≤ τ'.length) (hk:τ'[kL]? = τ[kL]?):LO τ' kX kB kL kD kC txt:=by
 obtain ⟨fs,l1,l2⟩:=h.lim
 exact ⟨⟨Nat.lt_of_lt_of_le h.ltX hl,Nat.lt_of_lt_of_le h.ltB hl,h.ne,⟨fs,hk.trans l1,l2⟩,h.neX,h.neB⟩,Nat.lt_of_lt_of_le h.ltD hl,Nat.lt_of_lt_of_le h.ltC hl,h.oct,h.len⟩
theorem LO.ls (h:LO τ kX kB kL kD kC txt):LS (lx τ kX kB txt kL kD kC i ln ll acc) kX kB kL kD kC txt i ln ll acc :=
 ⟨h.len_eq (by rw [ZaM];exact Nat.le_refl _) (Zjq h.neX h.neB),h.X,h.B⟩
theorem LS.app (h:LS σ kX kB kL kD kC txt i ln ll acc):LS (σ ++ e) kX kB kL kD kC txt i ln ll acc:=by
 obtain ⟨fs,l1,l2⟩:=h.lim
 refine ⟨h.toLO.len_eq (by simp) (by rw [List.getElem?_append_left (Zas l1)]),?_,?_⟩
 ·rw [List.getElem?_append_left h.ltX];exact h.atX
 ·rw [List.getElem?_append_left h.ltB];exact h.atB
theorem ZnH (h:LS σ kX kB kL kD kC txt i ln ll acc) (hd:txt.drop i = 34 :: (ks.flatMap ZY ++ [34])) (ho:Oct ks) (hl:ks.length ≤ 10000) (hn:ln + ks.length < 1000000):∃ σ' kB' tk i' ln' acc',OpV 5 (Fn (.ref 560)) [.ref kX] σ (.ref tk) σ' ∧ LS σ' kX kB' kL kD kC txt i' ln' ll acc' ∧
  txt.drop i' = [] ∧ σ'[tk]? = some (ZgI ks) ∧ tk ≠ kX ∧ Keep σ σ' ∧ ∀ k,k < σ.length → k ≠ kX → σ'[k]? = σ[k]?:=by
 obtain ⟨s0,_⟩:=ZJ hd
 obtain ⟨_,l2⟩:=h.clear
 obtain ⟨ln',hr⟩:=ZgJ (τ:=τ2 σ kX txt kL kD kC i ln ll) (ll:=ll) l2.toLO hd ho hl hn
 have e2:lx (τ2 σ kX txt kL kD kC i ln ll) kX σ.length txt kL kD kC i ln ll [] = τ2 σ kX txt kL kD kC i ln ll:=l2.eq
 rw [e2] at hr
 have hlen:(lx (τ2 σ kX txt kL kD kC i ln ll) kX σ.length txt kL kD kC (i + (ks.flatMap ZY).length + 2) ln' ll (34 :: (ks ++ [34]))).length = (τ2 σ kX txt kL kD kC i ln ll).length:=ZaM
 have hk:Keep σ (lx (τ2 σ kX txt kL kD kC i ln ll) kX σ.length txt kL kD kC (i + (ks.flatMap ZY).length + 2) ln' ll (34 :: (ks ++ [34])) ++ [.barr ks,ZgI ks]) :=
  ((Zjr h).trans (ZoT l2.toLO)).trans (Keep.app fun ao hao => by
   simp only [List.mem_cons,List.not_mem_nil,or_false] at hao
   rcases hao with rfl | rfl
   ·trivial
   ·simp [AO.lt,Fs.lt,V.lt])
 refine ⟨_,σ.length,(τ2 σ kX txt kL kD kC i ln ll).length + 1,_,ln',_,?_,(l2.toLO.ls (i:=i + (ks.flatMap ZY).length + 2) (ln:=ln') (ll:=ll) (acc:=34 :: (ks ++ [34]))).app (e:=[.barr ks,ZgI ks]),?_,?_,?_,hk,?_⟩
 ·refine ZeX (k:=1) (g:=[]) (o:=.ret _) Za5 rfl rfl (Zjs h s0 rfl rfl (by decide) ?_) rfl ?_ hk
  ·rw [List.append_nil]
   have t1:TB (Zb 89 (some 12)) 4 (.cmp (.loc 1) [.Eq] [(.glob 49)]) [some (.ref kX),some (.int 34)] (τ2 σ kX txt kL kD kC i ln ll) false (τ2 σ kX txt kL kD kC i ln ll):=TB.eqv (TB.cmp (TE.loc rfl) (TE.glob rfl) op_eq) rfl
   have t2:TB (Zb 89 (some 12)) 4 (.cmp (.loc 1) [.In] [(.tup [(.glob 52),(.glob 53)])]) [some (.ref kX),some (.int 34)] (τ2 σ kX txt kL kD kC i ln ll) true (τ2 σ kX txt kL kD kC i ln ll) :=
    TB.eqv (TB.cmp (TE.loc rfl) (TE.tup (vs:=Za [34,39]) (TEs.cons (TE.glob rfl) (TEs.one (TE.glob rfl)))) ZhC) rfl
   refine TSs.if_go t1 (TSs.if_ret t2 (TSs.ret ?_))
   exact TE.callm (TE.loc rfl) (Zn (.tail _ (.tail _ (.tail _ (.tail _ (.head _))))) (n:=51) (f:=644) (by decide) l2.atX rfl ZaD) (TEs.one (TE.loc rfl)) hr
  ·rw [List.length_append,hlen];simp [V.lt]
 ·have hall:txt.drop (i + (34 :: (ks.flatMap ZY ++ [34])).length) = []:=by rw [← List.drop_drop,hd,List.drop_length]
  rw [show i + (ks.flatMap ZY).length + 2 = i + (34 :: (ks.flatMap ZY ++ [34])).length by simp only [List.length_cons,List.length_append,List.length_nil];omega]
  exact hall
 ·rw [List.getElem?_append_right (by rw [hlen];omega),hlen,Nat.add_sub_cancel_left]
  rfl
 ·have:=l2.ltX
  omega
 ·intro k h1 h2
  rw [List.getElem?_append_left (by rw [hlen];simp;omega),Zjq h2 (by omega),ZhO h2 h1]
theorem ZnI (h:LS σ kX kB kL kD kC txt i ln ll acc) (hd:txt.drop i = []):∃ σ' kB' tk,OpV 5 (Fn (.ref 560)) [.ref kX] σ (.ref tk) σ' ∧ LS σ' kX kB' kL kD kC txt i ln ll [] ∧
  σ'[tk]? = some (.inst 458 [(15,.int 287),(16,.none)]) ∧ tk ≠ kX ∧ Keep σ σ' ∧ ∀ k,k < σ.length → k ≠ kX → σ'[k]? = σ[k]?:=by
 have s0:=ZoR hd
 obtain ⟨_,l2⟩:=h.clear
 have hk:Keep σ (τ2 σ kX txt kL kD kC i ln ll ++ [.inst 458 [(15,.int 287),(16,.none)]]):=(Zjr h).trans (Keep.app fun ao hao => by
  rw [List.mem_singleton] at hao
  subst hao
  simp [AO.lt,Fs.lt,V.lt])
 refine ⟨_,σ.length,(τ2 σ kX txt kL kD kC i ln ll).length,?_,l2.app (e:=[.inst 458 [(15,.int 287),(16,.none)]]),Zm,?_,hk,?_⟩
 ·refine ZeX (k:=1) (g:=[]) (o:=.ret _) Za5 rfl rfl (Zjs h s0 rfl rfl (by decide) ?_) rfl (by simp [V.lt]) hk
  rw [List.append_nil]
  have t1:TB (Zb 89 (some 12)) 4 (.cmp (.loc 1) [.Eq] [(.glob 49)]) [some (.ref kX),some (.int (-1))] (τ2 σ kX txt kL kD kC i ln ll) true (τ2 σ kX txt kL kD kC i ln ll):=TB.eqv (TB.cmp (TE.loc rfl) (TE.glob rfl) op_eq) rfl
  exact TSs.if_ret t1 (TSs.ret (TE.cls rfl (.tail _ (.tail _ (.tail _ (.head _)))) (TEs.cons (TE.glob rfl) (TEs.one TE.none)) (Zfh (d:=3) (by simp [V.lt]) (by simp [V.lt]))))
 ·have:=l2.ltX
  omega
 ·intro k h1 h2
  rw [List.getElem?_append_left (by simp;omega),ZhO h2 h1]
theorem LS.setLL (h:LS σ kX kB kL kD kC txt i ln ll acc) {ll':Int}:LS (σ.set kX (.inst 661 (Zi txt kL kD i (Z1 txt i) ln ll' kB kC))) kX kB kL kD kC txt i ln ll' acc:=by
 refine ⟨h.toLO.len_eq (by simp) (by rw [List.getElem?_set_ne (Ne.symm h.neX)]),?_,?_⟩
 ·rw [List.getElem?_set_self h.ltX]
 ·rw [List.getElem?_set_ne h.ne];exact h.atB
theorem ZkZ (h:LS σ kX kB kL kD kC txt i ln ll acc) {σ':List AO} {kB' tk i':Nat} {ln' ll':Int} {acc':List Int} (hr:OpV 5 (Fn (.ref 560)) [.ref kX] (σ.set kX (.inst 661 (Zi txt kL kD i (Z1 txt i) ln ln kB kC))) (.ref tk) σ') (h':LS σ' kX kB' kL kD kC txt i' ln' ll' acc')
  (hk:Keep (σ.set kX (.inst 661 (Zi txt kL kD i (Z1 txt i) ln ln kB kC))) σ') (ht:tk < σ'.length):OpV 6 (Fn (.ref 483)) [.ref kX] σ (.ref tk) (σ'.set kX (.inst 661 (Zi txt kL kD i' (Z1 txt i') ln' ll' kB' tk))):=by
 have hlt:Fs.lt σ'.length (Zi txt kL kD i' (Z1 txt i') ln' ll' kB' tk):=by
  obtain ⟨fs,l1,_⟩:=h'.lim
  exact Zcn (Zas l1) h'.ltD h'.ltB ht
 refine ZeX (k:=0) (g:=[]) (o:=.ret _) Za4 rfl rfl ?_ rfl (by simp [V.lt];exact ht) (((Keep.set (x:=.inst 661 (Zi txt kL kD i (Z1 txt i) ln ln kB kC)) h.lt).trans hk).trans (Keep.set hlt))
 rw [List.append_nil]
 have gX:∀ {n:Nat} {v:V},n ∈ [9,18,19,14,20,21,22,23,24,25,26,27] → Zbw n (Zi txt kL kD i (Z1 txt i) ln ll kB kC) = some v → (∀ x,v ≠ .ext x) → TE (Zb 89 (some 1)) 5 (.attr (.loc 0) n) [some (.ref kX)] σ v σ:=fun h1 h2 h3 =>
  TE.attr (TE.loc rfl) (ZA (.tail _ (.tail _ (.tail _ (.tail _ (.head _))))) h1 h.atX h2 h3)
 have a1:=TA.attr (sc:=Zb 89 (some 1)) (d:=5) (i:=0) (n:=24) (v:=.int ln) (ρ:=[some (.ref kX)]) rfl h.atX (.tail _ (.tail _ (.tail _ (.tail _ (.head _))))) (by decide) (by simp [Zi])
 have h1:=h.setLL (ll':=ln)
 have tb:TB (Zb 89 (some 1)) 5 (.cmp (.attr (.loc 0) 27) [.IsNot] [(.cst .none)]) [some (.ref kX)] (σ.set kX (.inst 661 (Zi txt kL kD i (Z1 txt i) ln ln kB kC))) false (σ.set kX (.inst 661 (Zi txt kL kD i (Z1 txt i) ln ln kB kC))) :=
  TB.eqv (TB.notNone (v:=.none) (TE.attr (TE.loc rfl) (ZA (.tail _ (.tail _ (.tail _ (.tail _ (.head _))))) (by decide) h1.atX rfl (by simp))) (by simp)) rfl
 have tr:TE (Zb 89 (some 1)) 5 (.callm (.loc 0) 49 []) [some (.ref kX)] (σ.set kX (.inst 661 (Zi txt kL kD i (Z1 txt i) ln ln kB kC))) (.ref tk) σ' :=
  TE.callm (TE.loc rfl) (Zn (.tail _ (.tail _ (.tail _ (.tail _ (.head _))))) (n:=49) (f:=560) (by decide) h1.atX rfl Za5) TEs.nil hr
 have a2:=TA.attr (sc:=Zb 89 (some 1)) (d:=5) (i:=0) (n:=26) (v:=.ref tk) (ρ:=[some (.ref kX)]) rfl h'.atX (.tail _ (.tail _ (.tail _ (.tail _ (.head _))))) (by decide) (by simp [Zi])
 have h2:(σ'.set kX (.inst 661 (Zi txt kL kD i' (Z1 txt i') ln' ll' kB' tk)))[kX]? = some (.inst 661 (Zi txt kL kD i' (Z1 txt i') ln' ll' kB' tk)):=List.getElem?_set_self h'.ltX
 refine TSs.cons (TS.assign (gX (by decide) rfl (by simp)) a1) (TSs.if_else tb (TSs.cons (TS.assign tr a2) TSs.nil) (TSs.ret ?_))
 exact TE.attr (TE.loc rfl) (ZA (.tail _ (.tail _ (.tail _ (.tail _ (.head _))))) (by decide) h2 rfl (by simp))
end
section
variable {sc:Scope} {d:Nat} {ρ ρ₁ ρ₂:List (Option V)} {σ σ₁ σ₂ σ₃:List AO} {o:Out} {txt acc ks:List Int} {kX kB kL kD kC i k:Nat} {ln ll:Int}
theorem LS.setC (h:LS σ kX kB kL kD kC txt i ln ll acc) {tk:Nat} (ht:tk < σ.length):LS (σ.set kX (.inst 661 (Zi txt kL kD i (Z1 txt i) ln ll kB tk))) kX kB kL kD tk txt i ln ll acc:=by
 have h1:=h.toLO.len_eq (τ':=σ.set kX (.inst 661 (Zi txt kL kD i (Z1 txt i) ln ll kB tk))) (by simp) (by rw [List.getElem?_set_ne (Ne.symm h.neX)])
 refine ⟨⟨h1.toLC,h1.ltD,by simpa using ht,h1.oct,h1.len⟩,?_,?_⟩
 ·rw [List.getElem?_set_self h.ltX]
 ·rw [List.getElem?_set_ne h.ne];exact h.atB
theorem LS.setO (h:LS σ kX kB kL kD kC txt i ln ll acc) {x:AO} (h1:k ≠ kX) (h2:k ≠ kB) (h3:k ≠ kL):LS (σ.set k x) kX kB kL kD kC txt i ln ll acc:=by
 refine ⟨h.toLO.len_eq (by simp) (by rw [List.getElem?_set_ne h3]),?_,?_⟩
 ·rw [List.getElem?_set_ne h1];exact h.atX
 ·rw [List.getElem?_set_ne h2];exact h.atB
theorem ZlP (ho:Oct txt) (hz:txt.length ≤ 100000) (hL:∃ fs,σ[kL]? = some (.inst 53 fs) ∧ Zbw 9 fs = some (.int 1000000)) {g:List AO} :
  LS (σ ++ .inst 661 (Zi txt kL (σ.length + 1) 0 (Z1 txt 0) 1 1 (σ.length + 2) (σ.length + 3)) :: ZbB ++ g) σ.length (σ.length + 2) kL (σ.length + 1) (σ.length + 3) txt 0 1 1 []:=by
 obtain ⟨fs,h1,h2⟩:=hL
 have hk:=Zas h1
 have e:∀ j x,(AO.inst 661 (Zi txt kL (σ.length + 1) 0 (Z1 txt 0) 1 1 (σ.length + 2) (σ.length + 3)) :: ZbB)[j]? = some x → (σ ++ .inst 661 (Zi txt kL (σ.length + 1) 0 (Z1 txt 0) 1 1 (σ.length + 2) (σ.length + 3)) :: ZbB ++ g)[σ.length + j]? = some x:=fun j x q => by
  rw [List.append_assoc,List.getElem?_append_right (by omega),Nat.add_sub_cancel_left]
  rw [List.getElem?_append_left (Zas q)];exact q
 have hlen:σ.length + 4 ≤ (σ ++ .inst 661 (Zi txt kL (σ.length + 1) 0 (Z1 txt 0) 1 1 (σ.length + 2) (σ.length + 3)) :: ZbB ++ g).length:=by simp [ZbB]
 refine ⟨⟨⟨by omega,by omega,by omega,⟨fs,?_,h2⟩,by omega,by omega⟩,by omega,by omega,ho,hz⟩,e 0 _ rfl,e 2 _ rfl⟩
 rw [List.append_assoc,List.getElem?_append_left hk];exact h1
end
section
variable {σ:List AO} {ks:List Int} {kL:Nat}
theorem Zhr (ho:Oct ks) (hz:ks.length ≤ 10000) (hL:∃ fs,σ[kL]? = some (.inst 53 fs) ∧ Zbw 9 fs = some (.int 1000000)):∃ σ' r,OpV 7 (Fn (.ref 672)) [.bytes (Zh ks),.bytes [61,113],.ref kL] σ (.ref r) σ' ∧ σ'[r]? = some (.list [.tup [.int 286,.bytes ks]]) ∧ σ.length ≤ σ'.length:=by
 have hK:(458,455,[15,16],[]) ∈ KT:=.tail _ (.tail _ (.tail _ (.head _)))
 have hKX:(661,476,[9,18,19,14,20,21,22,23,24,25,26,27],_) ∈ KT:=.tail _ (.tail _ (.tail _ (.tail _ (.head _))))
 have hlt:kL < σ.length:=by obtain ⟨fs,h1,_⟩:=hL;exact Zas h1
 have hqz:(Zh ks).length ≤ 100000:=by have:=ZcT (ks:=ks);omega
 have hq0:0 < (Zh ks).length:=by unfold Zh;simp
 have n1:=ZlH (σ:=σ) (txt:=Zh ks) (by omega) hq0 hlt
 have l0:=ZlP (σ:=σ) (txt:=Zh ks) (Zej ho) hqz hL (g:=[.list []])
 generalize hτ:σ ++ AO.inst 661 (Zi (Zh ks) kL (σ.length + 1) 0 (Z1 (Zh ks) 0) 1 1 (σ.length + 2) (σ.length + 3)) :: ZbB = τ at n1 l0
 have hτl:τ.length = σ.length + 4:=by rw [← hτ];simp [ZbB]
 have l0':=l0.setLL (ll':=1)
 obtain ⟨σ1,kB1,tk1,i1,ln1,acc1,r1,s1,d1,t1,ne1,keep1,oth1⟩:=ZnH l0' rfl ho hz (by omega)
 have ht1:=Zas t1
 have nx1:=ZkZ l0 r1 s1 keep1 ht1
 have l2:=s1.setC ht1
 have keepA:Keep σ (τ ++ [.list []]):=by
  rw [← hτ,List.append_assoc]
  refine Keep.app fun ao hao => ?_
  have hl:(σ ++ (AO.inst 661 (Zi (Zh ks) kL (σ.length + 1) 0 (Z1 (Zh ks) 0) 1 1 (σ.length + 2) (σ.length + 3)) :: ZbB ++ [AO.list []])).length = σ.length + 5:=by simp [ZbB]
  rw [hl]
  simp only [ZbB,List.cons_append,List.nil_append,List.mem_cons,List.not_mem_nil,or_false] at hao
  rcases hao with rfl | rfl | rfl | rfl | rfl
  ·exact Zcn (by omega) (by omega) (by omega) (by omega)
  ·trivial
  ·trivial
  ·simp [AO.lt,Fs.lt,V.lt]
  ·simp [AO.lt,V.lts]
 have lenA:(τ ++ [AO.list []]).length = σ.length + 5:=by simp [hτl]
 have atF0:(τ ++ [AO.list []])[σ.length + 4]? = some (.list []):=by rw [← hτl];exact Zm
 have lx1:Fs.lt σ1.length (Zi (Zh ks) kL (σ.length + 1) i1 (Z1 (Zh ks) i1) ln1 1 kB1 tk1):=by
  obtain ⟨fs,q1,_⟩:=s1.lim
  exact Zcn (Zas q1) s1.ltD s1.ltB ht1
 have lx0:AO.lt (τ ++ [AO.list []]).length (.inst 661 (Zi (Zh ks) kL (σ.length + 1) 0 (Z1 (Zh ks) 0) 1 1 (σ.length + 2) (σ.length + 3))):=l0.lt
 have keepB:Keep (τ ++ [.list []]) (σ1.set σ.length (.inst 661 (Zi (Zh ks) kL (σ.length + 1) i1 (Z1 (Zh ks) i1) ln1 1 kB1 tk1))):=((Keep.set lx0).trans keep1).trans (Keep.set lx1)
 have len1:=keep1.len
 rw [List.length_set,lenA] at len1
 have atF1:(σ1.set σ.length (.inst 661 (Zi (Zh ks) kL (σ.length + 1) i1 (Z1 (Zh ks) i1) ln1 1 kB1 tk1)))[σ.length + 4]? = some (.list []):=by
  rw [List.getElem?_set_ne (by omega),oth1 (σ.length + 4) (by rw [List.length_set,lenA];omega) (by omega),List.getElem?_set_ne (by omega)]
  exact atF0
 have atT1:(σ1.set σ.length (.inst 661 (Zi (Zh ks) kL (σ.length + 1) i1 (Z1 (Zh ks) i1) ln1 1 kB1 tk1)))[tk1]? = some (ZgI ks):=by
  rw [List.getElem?_set_ne (Ne.symm ne1)];exact t1
 generalize hτ1:σ1.set σ.length (.inst 661 (Zi (Zh ks) kL (σ.length + 1) i1 (Z1 (Zh ks) i1) ln1 1 kB1 tk1)) = τ1 at nx1 l2 keepB atF1 atT1
 have lenτ1:τ1.length = σ1.length:=by rw [← hτ1,List.length_set]
 have neFB:σ.length + 4 ≠ kB1:=fun q => by
  have:=l2.atB
  rw [← q,atF1] at this;cases this
 have neFL:σ.length + 4 ≠ kL:=by omega
 have neFT:σ.length + 4 ≠ tk1:=fun q => by rw [← q,atF1] at atT1;cases atT1
 have l3:=l2.setO (k:=σ.length + 4) (x:=.list [.tup [.int 286,.bytes ks]]) (by omega) neFB neFL
 have keepC:Keep τ1 (τ1.set (σ.length + 4) (.list [.tup [.int 286,.bytes ks]])):=Keep.set (by simp [AO.lt,V.lts,V.lt])
 have ap:=ZdI (d:=6) (σ:=τ1) (k:=σ.length + 4) (vs:=[]) (v:=.tup [.int 286,.bytes ks]) atF1 (by simp)
 have ml:Zic 6 28 (.ref (σ.length + 4)) τ1 (.builtin "list.append"):=ZP ZI atF1
 have atF2:(τ1.set (σ.length + 4) (.list [.tup [.int 286,.bytes ks]]))[σ.length + 4]? = some (.list [.tup [.int 286,.bytes ks]]):=List.getElem?_set_self (by omega)
 have lenτ2:(τ1.set (σ.length + 4) (AO.list [.tup [.int 286,.bytes ks]])).length = σ1.length:=by rw [List.length_set,lenτ1]
 rw [List.nil_append] at ap
 generalize hτ2:τ1.set (σ.length + 4) (.list [.tup [.int 286,.bytes ks]]) = τ2 at l3 keepC ap atF2 lenτ2
 have l3':=l3.setLL (ll':=ln1)
 obtain ⟨σ3,kB3,tk3,r3,s3,t3,ne3,keep3,oth3⟩:=ZnI l3' d1
 have ht3:=Zas t3
 have nx3:=ZkZ l3 r3 s3 keep3 ht3
 have len3:=keep3.len
 rw [List.length_set,lenτ2] at len3
 have lx2:AO.lt τ2.length (.inst 661 (Zi (Zh ks) kL (σ.length + 1) i1 (Z1 (Zh ks) i1) ln1 ln1 kB1 tk1)):=l3.lt
 have lx3:Fs.lt σ3.length (Zi (Zh ks) kL (σ.length + 1) i1 (Z1 (Zh ks) i1) ln1 ln1 kB3 tk3):=by
  obtain ⟨fs,q1,_⟩:=s3.lim
  exact Zcn (Zas q1) s3.ltD s3.ltB ht3
 have keepD:Keep τ2 (σ3.set σ.length (.inst 661 (Zi (Zh ks) kL (σ.length + 1) i1 (Z1 (Zh ks) i1) ln1 ln1 kB3 tk3))):=((Keep.set lx2).trans keep3).trans (Keep.set lx3)
 have atF3:(σ3.set σ.length (.inst 661 (Zi (Zh ks) kL (σ.length + 1) i1 (Z1 (Zh ks) i1) ln1 ln1 kB3 tk3)))[σ.length + 4]? = some (.list [.tup [.int 286,.bytes ks]]):=by
  rw [List.getElem?_set_ne (by omega),oth3 (σ.length + 4) (by rw [List.length_set,lenτ2];omega) (by omega),List.getElem?_set_ne (by omega)]
  exact atF2
 have atT3:(σ3.set σ.length (.inst 661 (Zi (Zh ks) kL (σ.length + 1) i1 (Z1 (Zh ks) i1) ln1 ln1 kB3 tk3)))[tk3]? = some (.inst 458 [(15,.int 287),(16,.none)]):=by
  rw [List.getElem?_set_ne (Ne.symm ne3)];exact t3
 have lenτ3:(σ3.set σ.length (AO.inst 661 (Zi (Zh ks) kL (σ.length + 1) i1 (Z1 (Zh ks) i1) ln1 ln1 kB3 tk3))).length = σ3.length:=List.length_set
 have l2x:=l2.atX
 have l3x:=l3.atX
 have l0x:=l0.atX
 generalize hτ3:σ3.set σ.length (.inst 661 (Zi (Zh ks) kL (σ.length + 1) i1 (Z1 (Zh ks) i1) ln1 ln1 kB3 tk3)) = τ3 at nx3 keepD atF3 atT3 lenτ3
 have keepZ:=((keepA.trans keepB).trans keepC).trans keepD
 refine ⟨τ3,σ.length + 4,?_,atF3,keepZ.len⟩
 refine ZeX (k:=3) (g:=[]) (d:=6) (o:=.ret _) Zck rfl rfl ?_ rfl (by simp [V.lt];omega) keepZ
 rw [List.append_nil]
 have pk:TEs (Zb 90 none) 6 [(.call 48 [(.loc 0),(.loc 1),(.loc 2)]),(.lst [])] [some (.bytes (Zh ks)),some (.bytes [61,113]),some (.ref kL),none,none,none] σ [.ref σ.length,.ref (σ.length + 4)] (τ ++ [.list []]):=by
  have e:=TE.lst (sc:=Zb 90 none) (d:=6) (ρ:=[some (.bytes (Zh ks)),some (.bytes [61,113]),some (.ref kL),none,none,none]) (σ:=τ) TEs.nil
  rw [hτl] at e
  exact TEs.cons (TE.cls rfl hKX (TEs.cons (TE.loc rfl) (TEs.cons (TE.loc rfl) (TEs.one (TE.loc rfl)))) (n1.more (by decide))) (TEs.one e)
 refine TSs.cons (TS.pack (is:=[3,4]) pk rfl (.inl rfl) rfl (by decide) (by simp)) ?_
 refine TSs.set (v:=.ref tk1) (TE.callm (TE.loc rfl) (Zn hKX (n:=43) (f:=483) (by decide) l0x rfl Za4) TEs.nil nx1) ?_
 have g1:∀ {n:Nat} {v:V},n ∈ [15,16] → Zbw n [(15,V.int 286),(16,.bytes ks)] = some v → (∀ x,v ≠ .ext x) → TE (Zb 90 none) 6 (.attr (.loc 5) n) [some (.bytes (Zh ks)),some (.bytes [61,113]),some (.ref kL),some (.ref σ.length),some (.ref (σ.length + 4)),some (.ref tk1)] τ1 v τ1:=fun h1 h2 h3 =>
  TE.attr (TE.loc rfl) (ZA hK h1 atT1 h2 h3)
 have g3:TE (Zb 90 none) 6 (.attr (.loc 5) 15) [some (.bytes (Zh ks)),some (.bytes [61,113]),some (.ref kL),some (.ref σ.length),some (.ref (σ.length + 4)),some (.ref tk3)] τ3 (.int 287) τ3:=TE.attr (TE.loc rfl) (ZA hK (by decide) atT3 rfl (by simp))
 refine TSs.cons (TS.while (n:=1) (.step (TB.eqv (TB.cmp (g1 (by decide) rfl (by simp)) (TE.glob rfl) Zew) rfl) ?_ (.done (TB.eqv (TB.cmp g3 (TE.glob rfl) Zew) rfl)))) (TSs.ret (TE.loc rfl))
 refine TSs.do (TE.callm (TE.loc rfl) ml (TEs.one (TE.tup (TEs.cons (g1 (by decide) rfl (by simp)) (TEs.one (g1 (by decide) rfl (by simp)))) (by simp))) ap) ?_
 exact TSs.set (v:=.ref tk3) (TE.callm (TE.loc rfl) (Zn hKX (n:=43) (f:=483) (by decide) l3x rfl Za4) TEs.nil nx3) TSs.nil
end
noncomputable def WhX (sc:Scope) (d:Nat) (c:ME) (b:List MS):Nat → List (Option V) → List AO → Prop
 | 0,ρ,σ => ∃ σ₁,TB sc d c ρ σ true σ₁ ∧ RSs sc d b ρ σ₁
 | n + 1,ρ,σ => ∃ σ₁ ρ₂ σ₂,TB sc d c ρ σ true σ₁ ∧ TSs sc d b ρ σ₁ (.next ρ₂) σ₂ ∧ WhX sc d c b n ρ₂ σ₂
theorem WhX.stop {sc d c b ρ σ σ₁} (t1:TB sc d c ρ σ true σ₁) (t2:RSs sc d b ρ σ₁):WhX sc d c b 0 ρ σ:=⟨_,t1,t2⟩
theorem WhX.step {sc d c b n ρ σ σ₁ ρ₂ σ₂} (t1:TB sc d c ρ σ true σ₁) (t2:TSs sc d b ρ σ₁ (.next ρ₂) σ₂) (t3:WhX sc d c b n ρ₂ σ₂):WhX sc d c b (n + 1) ρ σ:=⟨_,_,_,t1,t2,t3⟩
section
variable {sc:Scope} {d:Nat} {ρ ρ₁:List (Option V)} {σ σ₁ σ₂:List AO}
inductive WhXInv (h₀:Heap) (L:Addr) (sc:Scope) (d:Nat) (c:ME) (b:List MS) (s:Shared) (P:Z2) (n:Nat) (s':Shared):Prop
 | mk (ρ':List (Option V)) (σ':List AO) (ι':Ix) (P':Z2) (h':Heap) (tk:Nat) (hs:s' = { s with heap:=h',toks:=tk }) (hp:FrzLe P P') (S:St h₀ L (Zs sc) ρ' ι' P' σ' h') (W:WhX sc d c b n ρ' σ')
theorem RS.while {c:ME} {b:List MS} {n:Nat} (h:WhX sc d c b n ρ σ):RS sc d (.while c b) ρ σ:=by
 intro w h₀ A env pe ι P s E out F Y C S k Q
 obtain ⟨_,_,_,rfl,c0,c1⟩:=C
 refine Zft (Zcd (WhXInv h₀ env.locals sc d c b s P) ?_ n
  ⟨ρ,σ,ι,P,s.heap,s.toks,rfl,.refl _,S,h⟩)
 rintro n s' ⟨ρ',σ',ι',P',h',tk,rfl,p',S',W⟩
 cases n with
 | zero =>
  obtain ⟨_,t1,t2⟩:=W
  refine t1 w h₀ A env _ ι' P' { s with heap:=h',toks:=tk } _ F c0 S' _ ?_
  intro ι₁ P₁ g₁ t₁ i₁ p₁ S₁
  rw [if_pos rfl]
  refine t2 w h₀ A env _ ι₁ P₁ { s with heap:=g₁,toks:=t₁ } _ out F (Y.mono (p'.trans p₁)) c1 S₁ (fun x h'' tk'' u => ?_) _
  exact ZoL (s:={ s with heap:=h'',toks:=tk'' }) Y.frames Y.frame u fun h3 u3 => k x h3 tk'' u3
 | succ n =>
  obtain ⟨_,_,_,t1,t2,t3⟩:=W
  refine t1 w h₀ A env _ ι' P' { s with heap:=h',toks:=tk } _ F c0 S' _ ?_
  intro ι₁ P₁ g₁ t₁ i₁ p₁ S₁
  rw [if_pos rfl]
  refine t2 w h₀ A env _ ι₁ P₁ { s with heap:=g₁,toks:=t₁ } (notedBy (model pw w) A env fun e s' => cameBackBy (model pw w) A env E e s') F c1 S₁ _ ?_
  intro ι₂ P₂ g₂ t₂ i₂ p₂ S₂ f hf
  obtain rfl:=hf.next'
  exact ⟨_,Nat.lt_succ_self _,_,_,ι₂,P₂,g₂,t₂,rfl,p'.trans (p₁.trans p₂),S₂,t3⟩
theorem RE.callm_gen {o:ME} {n:Nat} {as:List ME} {u:V} {fv:Value} (h0:TE sc d o ρ σ u σ₁) (hm:Zic d n u σ₁ fv)
  (h1:REs sc d as ρ σ₁ ∨ ∃ vs σ₂,TEs sc d as ρ σ₁ vs σ₂ ∧ ROp d (Fn fv) (u :: vs) σ₂):RE sc d (.callm o n as) ρ σ:=by
 intro w h₀ A env pe ι P s E out F Y C S k Q
 obtain ⟨_,_,_,_,_,rfl,c1,c2,c3,c4,c5,c6⟩:=C
 rename_i o' n' ap args p
 show wpAny _ _ (do
  let ov ← attributeBase o' n' env (eval o' env)
  standAt ap.atName
  methodCall o' n' ap p env ov (args.length + 0) (backTo p (starEach args env)) []) _ _ _
 rw [ZeG c2]
 refine wpAny_bind (h0 w h₀ A env _ ι P s E F c1 S _ ?_)
 intro ι₁ P₁ g₁ t₁ i₁ p₁ S₁ x hx
 refine wpAny_bind (wpAny_standAt ?_)
 have few:methodCallForm (args.length + 0) (backTo p (starEach args env)) ([]:List (Option Str × Sem Value)) = true:=by
  obtain ⟨n1,_⟩:=noStar (pos:=p) (env:=env) c5
  unfold methodCallForm
  rw [List.any_eq_false] at n1
  simp only [List.all_nil,List.isEmpty_nil,if_true,Bool.and_true,Bool.and_eq_true,List.all_eq_true,decide_eq_true_eq,Bool.not_eq_true']
  exact ⟨fun y hy => by simpa using n1 y hy,by omega⟩
 unfold methodCall
 rw [few]
 refine wpAny_bind (wpAny_holding ?_)
 show wpAny _ _ (getMethod x n' (do return (← importBound o' env).getD true)) _ _ _
 obtain ⟨⟨kk,hkk,hlk⟩,hmm⟩:=And.intro (hm.1 w h₀ F.gl) hm.2
 refine hmm (cx w h₀ A env sc ρ E) ι₁ P₁ { s with heap:=g₁,toks:=t₁ } x n' _ _ F.toRm S₁ hx c3 fun tk => ?_
 unfold methodCallPos
 rw [c4]
 refine wpAny_bind (wpAny_pure ?_)
 rcases h1 with h1 | ⟨vs,σ₂,h1,h2⟩
 ·unfold callWith
  exact wpAny_bind (wpAny_holding (ZcJ c5 (h1 w h₀ A env _ ι₁ P₁ _ E out _ F (Y.mono p₁) c5 S₁ k.up _)))
 ·refine ZL (h:=h₀) c5 c6 hlk hkk (h1 w h₀ A env _ ι₁ P₁ _ E _ F c5 S₁ _ ?_)
  intro ι₂ P₂ g₂ t₂ i₂ p₂ S₂ xs hxs
  refine ⟨S₂.keep0,?_⟩
  exact h2 (cx w h₀ A env sc ρ E) ι₂ P₂ { s with heap:=g₂,toks:=t₂ } (x :: xs) env out F.toRm (Y.mono (p₁.trans p₂)) rfl S₂ (.cons (hx.mono i₂ p₂) hxs) k.up _
theorem RE.callm {o:ME} {n:Nat} {as:List ME} {u:V} {fv:Value} {vs:List V} (h0:TE sc d o ρ σ u σ₁) (hm:Zic d n u σ₁ fv) (h1:TEs sc d as ρ σ₁ vs σ₂) (h2:ROp d (Fn fv) (u :: vs) σ₂):RE sc d (.callm o n as) ρ σ :=
 RE.callm_gen h0 hm (.inr ⟨vs,σ₂,h1,h2⟩)
theorem RE.callm_arg {o:ME} {n:Nat} {as:List ME} {u:V} {fv:Value} (h0:TE sc d o ρ σ u σ₁) (hm:Zic d n u σ₁ fv) (h1:REs sc d as ρ σ₁):RE sc d (.callm o n as) ρ σ:=RE.callm_gen h0 hm (.inl h1)
end
section
variable {sc:Scope} {σ g:List AO} {d:Nat} {ks:List Int} {ρ:List (Option V)} {k kA m w:Nat} {fl:List Int} {wd:Int} {p:V} {vs:List V}
theorem RSs.set {i:Nat} {e:ME} {v:V} {rest:List MS} {σ₁:List AO} (h1:TE sc d e ρ σ v σ₁) (h2:RSs sc d rest (ρ.set i (some v)) σ₁) (hp:ZbX e = true:=by rfl):RSs sc d (.assign (.loc i) e :: rest) ρ σ :=
 RSs.cons (TS.assign h1 TA.loc hp rfl) h2
theorem ZlQ (D:DirAt σ k fl wd p 100) (hA:ArgsAt σ kA vs w) (hv:Zcw (vs.getD m .none)) (hi:Zb7 (vs.getD m .none) w = .none):ROp 7 (Fn (.ref 362)) [.ref k,.ref kA,.int ((m:Int) + 2)] σ:=by
 obtain ⟨u,kL,fs,h1,_⟩:=hA.ex
 have t1:=Zjm (sc:=Zb 42 none) (d:=6) D (by decide) (cs:=[100,105]) (is:=[100,105]) rfl (r:=[some (.ref kA),some (.int ((m:Int) + 2)),none])
 refine ZcH (k:=1) Zbz rfl rfl (RSs.stop (RS.if_t t1 (RSs.stop (RS.ret ?_))))
 refine RE.callm_arg (TE.loc rfl) (Zn (.tail _ (.head _)) (.tail _ (.tail _ (.tail _ (.tail _ (.head _))))) D.at_ rfl Zag) (REs.one ?_)
 exact RE.callm (TE.loc rfl) (Zn (.tail _ (.tail _ (.head _))) (.tail _ (.head _)) h1 rfl Zx) (TEs.one (TE.loc rfl)) (Zhl hA hv hi)
theorem Zqk (D:DirAt σ k fl wd p 121) (hA:ArgsAt σ kA vs w):ROp 7 (Fn (.ref 362)) [.ref k,.ref kA,.int ((m:Int) + 2)] σ:=by
 obtain ⟨u,kL,fs,h1,_⟩:=hA.ex
 have t1:=Zjm (sc:=Zb 42 none) (d:=6) D (by decide) (cs:=[100,105]) (is:=[100,105]) rfl (r:=[some (.ref kA),some (.int ((m:Int) + 2)),none])
 have t2:=Zjm (sc:=Zb 42 none) (d:=6) D (by decide) (cs:=[117,111,120,88]) (is:=[117,111,120,88]) rfl (r:=[some (.ref kA),some (.int ((m:Int) + 2)),none])
 have t3:=Zfk (sc:=Zb 42 none) (d:=6) D (c:=99) (s:=Str.ofString "c") (by decide) (r:=[some (.ref kA),some (.int ((m:Int) + 2)),none])
 have t4:=Zfk (sc:=Zb 42 none) (d:=6) D (c:=115) (s:=Str.ofString "s") (by decide) (r:=[some (.ref kA),some (.int ((m:Int) + 2)),none])
 have t5:=Zfk (sc:=Zb 42 none) (d:=6) D (c:=113) (s:=Str.ofString "q") (by decide) (r:=[some (.ref kA),some (.int ((m:Int) + 2)),none])
 have D':=D.app (g:=[.list (Za [121])])
 have h1':=(hA.app (g:=[.list (Za [121])])).ex
 have go:∀ {c:ME} {a rest:List MS} {ρ:List (Option V)},TB (Zb 42 none) 6 c ρ σ false σ → RSs (Zb 42 none) 6 rest ρ σ → RSs (Zb 42 none) 6 (.ife c a [] :: rest) ρ σ:=fun t r => RSs.cons (TS.if_f t TSs.nil) r
 have ts:TE (Zb 42 none) 6 (.ite (.cmp (.attr (.loc 0) 12) [.NotEq] [(.cst (.int (0)))]) (.call 76 [(.lst [(.attr (.loc 0) 12)])]) (.cst (.bytes []))) [some (.ref k),some (.ref kA),some (.int ((m:Int) + 2)),none] σ (.bytes [121]) (σ ++ [.list (Za [121])]):=by
  refine TE.ite_t (TB.eqv (TB.cmp (Zbm D (TE.loc rfl)) TE.int Zew) rfl) ?_
  exact TE.blt (j:=2) rfl (by decide +kernel) rfl (TEs.one (TE.lst (TEs.one (Zbm D (TE.loc rfl))) (by simp))) (Z4 (ks:=[121]) (show IsL _ (.ref _) _ from by simp [IsL,Za]) (by intro q hq;simp at hq;omega) (by simp))
 have e:(σ ++ [AO.list (Za [121])])[kA]? = some (.inst 351 [(13,u),(14,.ref kL)]):=by rw [List.getElem?_append_left (Zas h1)];exact h1
 refine ZcH (k:=1) Zbz rfl rfl (go t1 (go t2 (go t3 (go t4 (go t5 (RSs.set ts (RSs.stop (RS.ret ?_))))))))
 exact RE.callm (TE.loc rfl) (Zn (.tail _ (.tail _ (.head _))) (.tail _ (.tail _ (.tail _ (.head _)))) e rfl ZQ) (TEs.one (TE.bin (TE.bin TE.byt (TE.loc rfl) (Z0 (by decide))) TE.byt (Z0 (by decide)))) (refuse_raise.more (by decide))
end
inductive FmtX (ks:List Int) (vs:List V) (w:Nat):Nat → Nat → Nat → Prop
 | chr {i m n}:i < ks.length → ks.getD i 0 ≠ 37 → FmtX ks vs w (i + 1) m n → FmtX ks vs w i m (n + 1)
 | pct {i m n}:i + 1 < ks.length → ks.getD i 0 = 37 → ks.getD (i + 1) 0 = 37 → FmtX ks vs w (i + 2) m n → FmtX ks vs w i m (n + 1)
 | dir {i m n fl wd p l a}:i < ks.length → ks.getD i 0 = 37 → (decide (i + 1 < ks.length) && (ks.getD (i + 1) 0 == 37)) = false → Zt ks (i + 1) = .dir fl wd p l a → ItemOk p l (vs.getD m .none) w → 0 ≤ wd ∧ wd ≤ 1000 →
   FmtX ks vs w a (m + 1) n → FmtX ks vs w i m (n + (ZaG fl wd p l (vs.getD m .none) w).length)
 | bad {i m a msg}:i < ks.length → ks.getD i 0 = 37 → (decide (i + 1 < ks.length) && (ks.getD (i + 1) 0 == 37)) = false → Zt ks (i + 1) = .bad a msg → FmtX ks vs w i m 0
 | none {i m fl wd p a}:i < ks.length → ks.getD i 0 = 37 → (decide (i + 1 < ks.length) && (ks.getD (i + 1) 0 == 37)) = false → Zt ks (i + 1) = .dir fl wd p 100 a → (∀ x,p ≠ .ext x) → Zcw (vs.getD m .none) → Zb7 (vs.getD m .none) w = .none → FmtX ks vs w i m 0
 | y {i m fl wd p a}:i < ks.length → ks.getD i 0 = 37 → (decide (i + 1 < ks.length) && (ks.getD (i + 1) 0 == 37)) = false → Zt ks (i + 1) = .dir fl wd p 121 a → (∀ x,p ≠ .ext x) → FmtX ks vs w i m 0
section
variable {sc:Scope} {σ g:List AO} {d kA m w i:Nat} {ks acc:List Int} {vs:List V} {r:List (Option V)}
theorem RSs.else_ {c:ME} {a b rest:List MS} {ρ:List (Option V)} {σ₁:List AO} (t:TB sc d c ρ σ false σ₁) (h:RSs sc d b ρ σ₁):RSs sc d (.ife c a b :: rest) ρ σ:=RSs.stop (RS.if_f t h)
theorem Zjt (ho:Oct ks) (hz:ks.length ≤ 1000000) (hi:i < ks.length) (hc:ks.getD i 0 = 37) (hc2:(decide (i + 1 < ks.length) && (ks.getD (i + 1) 0 == 37)) = false) {x y z:Option V} {σ₁:List AO} {a:Nat} {v1 v3:V}
  (hv:(Zt ks (i + 1)).val (σ ++ .barr acc :: g) = .tup [v1,.int a,v3]) (hs:(Zt ks (i + 1)).sto (σ ++ .barr acc :: g) = σ₁)
  (h:RSs sc 7 [(.ife (.cmp (.loc 7) [.IsNot] [(.cst .none)]) [(.expr (.callm (.loc 1) 42 [(.loc 7)]))] []),(.expr (.callm (.loc 2) 29 [(.call 35 [(.loc 6),(.loc 1),(.loc 4)])]))] (ZaT ks kA σ.length a (m + 1) [some (.int (ks.getD i 0)),some v1,some v3]) σ₁) :
  RSs sc 7 Zek (ZaT ks kA σ.length i m [x,y,z]) (σ ++ .barr acc :: g):=by
 have t2:=Zkr (sc:=sc) (d:=7) (kA:=kA) (σ:=σ) (g:=g) (acc:=acc) (m:=m) hz (j:=i + 1) (x:=some (.int (ks.getD i 0))) (y:=y) (z:=z)
 rw [hc2] at t2
 have hr:=Zcq (σ:=σ ++ .barr acc :: g) ho hz (show i + 1 ≤ ks.length by omega)
 rw [hv,hs] at hr
 refine RSs.set (TE.at rfl rfl hz hi) (RSs.set (v:=.int ((i + 1:Nat):Int)) (TE.eqv (TE.bin (TE.loc rfl) TE.int ZK) (by simp)) (RSs.else_ (Zix (by rw [hc];rfl)) (RSs.else_ t2 ?_)))
 refine RSs.set (v:=.int (((m + 1:Nat):Int) + 1)) (TE.eqv (TE.bin (TE.loc rfl) TE.int ZK) (by simp)) ?_
 exact RSs.cons (TS.assign (TE.def rfl Zak (TEs.cons (TE.loc rfl) (TEs.one (TE.loc rfl))) (hr.more (by decide))) (TA.tup (TAs.slots (is:=[6,3,7]) rfl rfl))) h
theorem Zju (ho:Oct ks) (hz:ks.length ≤ 1000000) (hi:i < ks.length) (hc:ks.getD i 0 = 37) (hc2:(decide (i + 1 < ks.length) && (ks.getD (i + 1) 0 == 37)) = false) {fl:List Int} {wd:Int} {p:V} {l:Int} {a:Nat} (hr:Zt ks (i + 1) = .dir fl wd p l a)
  (hp:∀ x,p ≠ .ext x) (hA:ArgsAt σ kA vs w) (hX:∀ {σ:List AO} {k:Nat},DirAt σ k fl wd p l → ArgsAt σ kA vs w → ROp 7 (Fn (.ref 362)) [.ref k,.ref kA,.int ((m:Int) + 2)] σ) {x y z:Option V}:RSs sc 7 Zek (ZaT ks kA σ.length i m [x,y,z]) (σ ++ .barr acc :: g):=by
 refine Zjt (σ₁:=(σ ++ .barr acc :: g) ++ [.inst 288 (ZfT fl wd p l)]) (v1:=.ref (σ ++ .barr acc :: g).length) (v3:=.none) ho hz hi hc hc2 (by rw [hr];rfl) (by rw [hr];rfl) ?_
 refine RSs.cons (TS.if_f (TB.eqv (TB.notNone (v:=.none) (TE.loc rfl) (by simp)) rfl) TSs.nil) (RSs.stop (RS.expr ?_))
 have hA':ArgsAt ((σ ++ .barr acc :: g) ++ [.inst 288 (ZfT fl wd p l)]) kA vs w:=(hA.app (g:=.barr acc :: g)).app
 have it:=hX (k:=(σ ++ .barr acc :: g).length) ⟨Zm,hp⟩ hA'
 have e:((m + 1:Nat):Int) + 1 = (m:Int) + 2:=by omega
 have hb:((σ ++ .barr acc :: g) ++ [.inst 288 (ZfT fl wd p l)])[σ.length]? = some (.barr acc):=by rw [Zkb];exact at0
 refine RE.callm_arg (TE.loc rfl) (ZdH Zdr hb) (REs.one (RE.def rfl Zbz (TEs.cons (TE.loc rfl) (TEs.cons (TE.loc rfl) (TEs.one (TE.loc rfl)))) ?_))
 rw [e]
 exact it
theorem Zql (ho:Oct ks) (hz:ks.length ≤ 1000000) (hA:ArgsAt σ kA vs w) {n:Nat} (h:FmtX ks vs w i m n):∀ (acc:List Int) (g:List AO) (x y z:Option V),acc.length + n < 900000 →
  ∃ n',WhX sc 7 Zkq Zek n' (ZaT ks kA σ.length i m [x,y,z]) (σ ++ .barr acc :: g):=by
 induction h with
 | @chr i m n hi hc _ ih =>
  intro acc g x y z hl
  obtain ⟨n,hw⟩:=ih (acc ++ [ks.getD i 0]) g (some (.int (ks.getD i 0))) y z (by rw [List.length_append];simp only [List.length_cons,List.length_nil];omega)
  exact ⟨n + 1,.step (Zbq hz (decide_eq_true hi)) (Znz ho hz hi hc (by omega)) hw⟩
 | @pct i m n hi hc hc2 _ ih =>
  intro acc g x y z hl
  obtain ⟨n,hw⟩:=ih (acc ++ [37]) g (some (.int (ks.getD i 0))) y z (by rw [List.length_append];simp only [List.length_cons,List.length_nil];omega)
  exact ⟨n + 1,.step (Zbq hz (decide_eq_true (by omega))) (ZnA hz hi hc hc2 (by omega)) hw⟩
 | @dir i m n fl wd p l a hi hc hc2 hr hI hw _ ih =>
  intro acc g x y z hl
  obtain ⟨g1,o5,o6,o7,t⟩:=ZnB (sc:=sc) (kA:=kA) (g:=g) (x:=x) (y:=y) (z:=z) ho hz hi hc hc2 hr hI hw hA (acc:=acc) (by omega)
  obtain ⟨n,hw'⟩:=ih (acc ++ ZaG fl wd p l (vs.getD m .none) w) g1 o5 o6 o7 (by rw [List.length_append];omega)
  exact ⟨n + 1,.step (Zbq hz (decide_eq_true hi)) t hw'⟩
 | @bad i m a msg hi hc hc2 hr =>
  intro acc g x y z hl
  refine ⟨0,.stop (Zbq hz (decide_eq_true hi)) (Zjt (σ₁:=σ ++ .barr acc :: g) (v1:=.none) (v3:=.bytes msg) (a:=a) ho hz hi hc hc2 (by rw [hr];rfl) (by rw [hr];rfl) ?_)⟩
  obtain ⟨u,kL,fs,h1,_⟩:=(hA.app (g:=.barr acc :: g)).ex
  refine RSs.stop (RS.if_t (TB.eqv (TB.notNone (v:=.bytes msg) (TE.loc rfl) (by simp)) rfl) (RSs.stop (RS.expr ?_)))
  exact RE.callm (TE.loc rfl) (Zn (.tail _ (.tail _ (.head _))) (.tail _ (.tail _ (.tail _ (.head _)))) h1 rfl ZQ) (TEs.one (TE.loc rfl)) (refuse_raise.more (by decide))
 | @none i m fl wd p a hi hc hc2 hr hp hv hn =>
  intro acc g x y z hl
  exact ⟨0,.stop (Zbq hz (decide_eq_true hi)) (Zju ho hz hi hc hc2 hr hp hA fun D hA' => ZlQ D hA' hv hn)⟩
 | @y i m fl wd p a hi hc hc2 hr hp =>
  intro acc g x y z hl
  exact ⟨0,.stop (Zbq hz (decide_eq_true hi)) (Zju ho hz hi hc hc2 hr hp hA fun D hA' => Zqk D hA')⟩
theorem ZnJ (kA:Nat) (ks:List Int):TS (Zb 43 none) 7 (.assign (.tup [(.loc 2),(.loc 3),(.loc 4)]) (.tup [(.call 77 []),(.cst (.int (0))),(.cst (.int (1)))])) [some (.bytes ks),some (.ref kA),none,none,none,none,none,none] σ (.next (ZaT ks kA σ.length 0 0 [none,none,none])) (σ ++ [.barr []]) :=
 TS.pack (is:=[2,3,4]) (TEs.cons (TE.blt (j:=3) rfl (by decide +kernel) rfl TEs.nil ZdE) (TEs.cons TE.int (TEs.one TE.int))) rfl (.inl rfl) rfl (by decide) (by simp)
theorem Zfl (ho:Oct ks) (hz:ks.length ≤ 1000000) (hA:ArgsAt σ kA vs w) {n:Nat} (h:FmtX ks vs w 0 0 n) (hl:n < 900000):ROp 8 (Fn (.ref 369)) [.bytes ks,.ref kA] σ:=by
 obtain ⟨n',hw⟩:=Zql (sc:=Zb 43 none) (kA:=kA) ho hz hA h [] [] none none none (by simpa using hl)
 exact ZcH (k:=6) Zan rfl rfl (RSs.cons (ZnJ kA ks) (RSs.stop (RS.while hw)))
end
noncomputable def TZ (sc:Scope) (d:Nat) (ms:List MS) (ρ:List (Option V)) (σ:List AO) (b:Bool):Prop :=
 ∀ w h₀ A env pe ι P s E,Fx w h₀ A env sc d → Fy h₀ A env P [] → CSs sc pe ms → St h₀ env.locals (Zs sc) ρ ι P σ s.heap → ∀ Q:Flow → Shared → Prop,(∀ h' tk,h₀.StaysIn h' → Q (.ret (.bool b)) { s with heap:=h',toks:=tk }) → wpAny (model pw w) A (execs pe env) Q E s
noncomputable def TOp (d:Nat) (f:List Value → Sem Value) (as:List V) (σ:List AO):Prop :=
 ∀ (c:Cx) ι P s xs env,Rm c.w c.h₀ c.A d → Fy c.h₀ c.A env P [] → env.locals = c.L → c.St ι P σ s.heap → VRs ι P as xs → ∀ Q:Value → Shared → Prop,(∀ h' tk,c.h₀.StaysIn h' → Q .none { s with heap:=h',toks:=tk }) → wpAny (model pw c.w) c.A (f xs) Q c.E s
section
variable {sc:Scope} {d:Nat} {ρ ρ₁:List (Option V)} {σ σ₁ σ₂:List AO} {b:Bool}
theorem TZ.of {ms:List MS} (h:TSs sc d ms ρ σ (.ret (.bool b)) σ₁):TZ sc d ms ρ σ b:=by
 intro w h₀ A env pe ι P s E F Y C S Q k
 refine h w h₀ A env _ ι P s E F C S _ ?_
 intro ι₁ P₁ g₁ t₁ i₁ p₁ S₁ f hf
 obtain ⟨_,rfl,hv⟩:=hf.ret'
 obtain rfl:=hv.bool'
 exact k g₁ t₁ S₁.keep0
theorem TZ.cons {m:MS} {ms:List MS} (h1:TS sc d m ρ σ (.next ρ₁) σ₁) (h2:TZ sc d ms ρ₁ σ₁ b):TZ sc d (m :: ms) ρ σ b:=by
 intro w h₀ A env pe ι P s E F Y C S Q k
 obtain ⟨_,_,rfl,c1,c2⟩:=C
 refine wpAny_execs_cons (h1 w h₀ A env _ ι P s E F c1 S _ ?_)
 intro ι₁ P₁ g₁ t₁ i₁ p₁ S₁ f hf
 obtain rfl:=hf.next'
 exact h2 w h₀ A env _ ι₁ P₁ { s with heap:=g₁,toks:=t₁ } E F (Y.mono p₁) c2 S₁ _ k
theorem TZ.if_stop {c:ME} {a b' rest:List MS} (h1:TB sc d c ρ σ true σ₁) (h2:TZ sc d a ρ σ₁ b):TZ sc d (.ife c a b' :: rest) ρ σ b:=by
 intro w h₀ A env pe ι P s E F Y C S Q k
 obtain ⟨_,_,rfl,c1,c2⟩:=C
 obtain ⟨_,_,_,_,rfl,c3,c4,c5⟩:=c1
 refine wpAny_execs_cons (Zde (h1 w h₀ A env _ ι P s E F c3 S _ ?_))
 intro ι₁ P₁ g₁ t₁ i₁ p₁ S₁
 rw [if_pos rfl]
 exact h2 w h₀ A env _ ι₁ P₁ { s with heap:=g₁,toks:=t₁ } E F (Y.mono p₁) c4 S₁ _ k
theorem TZ.tried {f a n:Nat} {sc':Scope} {ms rest:List MS} {as:List ME} {vs:List V} (hg:GV[f]? = some (.ext (.ref a))) (hc:Zc a sc' n ms) (h1:TEs sc d as ρ σ vs σ₁) (h2:TOp d (Fn (.ref a)) vs σ₁) :
  TZ sc d (.ret (some (.cmp (.call f as) [.Is] [.cst .none])) :: rest) ρ σ true:=by
 intro w h₀ A env pe ι P s E F Y C S Q k
 obtain ⟨_,_,_,h3,h4,_⟩:=hc
 obtain ⟨_,_,rfl,c1,_⟩:=C
 obtain ⟨_,_,rfl,c1⟩:=c1
 obtain ⟨_,_,_,rfl,c1,c2⟩:=c1
 obtain ⟨_,_,rfl,c2,c3⟩:=c2
 cases c3
 refine wpAny_execs_cons (wpAny_Return_some (Zdd ?_ (Zbf c2)))
 obtain ⟨_,_,_,_,rfl,c1,e2,e3,e4,e5⟩:=c1
 refine ZaO rfl (wpAny_Name (Zbe F S (ZcN c1 hg) e2 hg fun x hx => ?_) e3)
 obtain rfl:=hx.ext'
 refine ZL e4 e5 (ZeE F.gl h3 h4) (.inl rfl) (h1 w h₀ A env _ ι P s E _ F e4 S _ ?_)
 intro ι₁ P₁ g₁ t₁ i₁ p₁ S₁ xs hxs
 refine ⟨S₁.keep0,?_⟩
 refine h2 (cx w h₀ A env sc ρ E) ι₁ P₁ { s with heap:=g₁,toks:=t₁ } xs env F.toRm (Y.mono p₁) rfl S₁ hxs _ fun h' tk hs => ?_
 obtain ⟨_,_,rfl⟩:=c2
 refine up (wpAny_Constant_none (up (is_none ?_)))
 exact k h' tk hs
theorem Zqm {w:World} {h₀:Heap} {A:Around} {env:Env} {out:List Env} {s:Shared} {E:Value → Shared → Prop} {Q:Flow → Shared → Prop} {n:Str} {p1 p2 p3 p4:Pos} {k:Nat} {e:Addr} {a0:Value} (G:Glob w h₀) (hs:env.scope = sc) (hk:sc.kind = .function) (hg:env.globals = mainGlobals)
  (h1:(GN ++ BN)[17]? = some n) (h2:sc.names.lookup n = some .globalImplicit) (h3:dbg n = false) (hfl:Heap.FlyingW h₀ (env :: out) e (.ref 74) a0 s.heap) (hq:∀ h',h₀.StaysIn h' → Q (.ret .none) { s with heap:=h' }) :
  PySem.wpAny (model pw w) A (handleBy (.ref e) env [.ExceptHandler (some (.Name n p1)) none [.Return (some (.Constant .none k p2)) p3] p4]) Q E s:=by
 obtain ⟨nm,q,bs,sub,ab,col,dd,k1,k2,k3,k4,k5,hC₀⟩:=G.exc
 obtain ⟨mg,hmg,hgv,_⟩:=G.own
 obtain ⟨ob,hob,hobc⟩:=hfl.there
 refine wpAny_handleBy_cons (codeAny_handlers_test (PySem.wpAny_Name ?_ h3)) (by intro q;cases q)
 rw [loadName_read (by rw [hs];exact hk) (by rw [Env.kindOf,hs];exact h2)]
 obtain ⟨x,hx,hr⟩:=hgv 17 n (fa 74) (ZcN h1 rfl) rfl
 obtain rfl:=hr.ext'
 unfold loadGlobal
 rw [hg]
 refine PySem.wpAny_bind (PySem.wpAny_nsGet (hmg.keeps hfl.1) ?_)
 rw [hx]
 refine PySem.wpAny_pure ?_
 obtain ⟨hp,g,d,tk,os⟩:=s
 refine wpAny_excMatches_sub_self (hfl.1 _ _ hC₀) hob hobc (by decide) ?_
 dsimp only
 rw [if_pos rfl]
 refine codeAny_handlers_suite (lands_againW hfl fun h₆ hfl₆ hsm₆ => ?_)
 refine PySem.wpAny_execs_cons (PySem.wpAny_Return_some (wpAny_Constant_none ?_))
 exact hq h₆ hfl₆.1
end
theorem ZgL {w:World} {A:Around} {env:Env} {s:Shared} {E:Value → Shared → Prop} {body:List Stmt} {h₀:ExceptHandler} {hs:List ExceptHandler} {pos:Pos} {Q:Flow → Shared → Prop}
  (h:wpAny (model pw w) A (execs body env) (fun f s₁ => match f with | .next => wpAny (model pw w) A (execs [] env) Q E s₁ | f => Q f s₁)
   (fun e s₁ => PySem.wpAny (model pw w) A (noteFrame e env) (fun _ s₂ => PySem.wpAny (model pw w) A (setFlight e none) (fun _ s₃ => PySem.wpAny (model pw w) A (handleBy e env (h₀ :: hs)) Q E s₃) E s₂) E s₁) s) :
  wpAny (model pw w) A (exec (.Try body (h₀ :: hs) [] [] pos) env) Q E s:=by
 rw [arm_exec_Try]
 refine wpAny_bind (wpAny_standAt ?_)
 show wpAny _ _ ((execs body env).attempt >>= _) _ _ _
 refine wpAny_bind (wpAny_attempt (wpAny_mono h (fun f s₁ h₁ => ?_) fun e s₁ h₁ => ?_))
 ·cases f <;> first | exact h₁ | exact wpAny_pure h₁
 ·exact wpAny_bind (wpAny_mono (up h₁) (fun _ _ h₂ => wpAny_bind (wpAny_mono (up h₂) (fun _ _ h₃ => up h₃) fun _ _ x => x)) fun _ _ x => x)
section
variable {sc:Scope} {d:Nat} {ρ ρ₁:List (Option V)} {σ σ₁ σ₂:List AO} {b:Bool}
theorem TS.tryx {a h:List MS} {i:Nat} {v:V} (h1:TSs sc d a ρ σ (.ret v) σ₁):TS sc d (.tryx a i h) ρ σ (.ret v) σ₁:=by
 intro w h₀ A env pe ι P s E F C S Q k
 obtain ⟨_,_,_,_,_,_,rfl,c1,c2,c3,c4,c5⟩:=C
 refine ZgL (h1 w h₀ A env _ ι P s (fun e s₁ => PySem.wpAny (model pw w) A (noteFrame e env) (fun _ s₂ => PySem.wpAny (model pw w) A (setFlight e none) (fun _ s₃ => PySem.wpAny (model pw w) A (handleBy e env _) Q E s₃) E s₂) E s₁) F c1 S _ ?_)
 intro ι₁ P₁ g₁ t₁ i₁ p₁ S₁ f hf
 have q:=k ι₁ P₁ g₁ t₁ i₁ p₁ S₁ f hf
 obtain ⟨_,rfl,_⟩:=hf.ret'
 exact q
theorem Zku {e:ME} {vs:List V} {n k a:Nat} (hc:Zc a sc n [.tryx [.ret (some e)] 17 [.ret (some (.cst .none))]]) (hn:vs.length = n) (hρ:ρ = vs.map some ++ List.replicate k none) (hb:RE sc d e ρ σ):TOp (d + 1) (Fn (.ref a)) vs σ:=by
 intro c ι P s xs envc R Y hL S hx Q kk
 refine wpAny_call (ZgD hc hn hρ R Y hL S hx fun env' P' h₁ tk body FX FY C S' => ?_)
 obtain ⟨_,_,rfl,c1,c2⟩:=C
 cases c2
 obtain ⟨_,_,_,_,_,_,rfl,c1,c2,c3,c4,c5⟩:=c1
 obtain ⟨_,_,rfl,c1,c6⟩:=c1
 cases c6
 obtain ⟨_,_,rfl,c5,c7⟩:=c5
 cases c7
 obtain ⟨_,_,rfl,c5⟩:=c5
 obtain ⟨_,_,rfl⟩:=c5
 obtain ⟨_,_,rfl,c1⟩:=c1
 refine wpAny_execs_cons (ZgL (wpAny_execs_cons (wpAny_Return_some (hb c.w c.h₀ _ _ _ ι P' { s with heap:=h₁,toks:=tk } _ [envc] FX FY c1 S' (fun x h' tk u => ?_) _))))
 refine Zji (s:={ s with heap:=h',toks:=tk }) FY.frames FY.frame u fun h₂ ae a0 ea hh => ?_
 subst ea
 refine wpAny_landsW hh fun h₃ hfl _ => ?_
 refine Zqm (s:={ s with heap:=h₃,toks:=tk }) FX.gl FX.scope FX.kind FX.globals c2 c3 c4 hfl fun h₄ hst => ?_
 exact kk h₄ tk hst
end
structure ValsAt (σ:List AO) (u:V) (kL:Nat) (vs:List V) (w:Nat):Prop where
 list:IsL σ u vs
 plain:∀ x,u ≠ .ext x
 lim:∃ fs,σ[kL]? = some (.inst 53 fs) ∧ Zbw 0 fs = some (.int w)
 bits:Bits w
 len:vs.length ≤ 1000
 lt:∀ y ∈ vs,V.lt σ.length y
 ltu:V.lt σ.length u
section
variable {sc:Scope} {σ g:List AO} {d kL w:Nat} {ks:List Int} {vs:List V} {u:V}
theorem ValsAt.args (h:ValsAt σ u kL vs w):ArgsAt (σ ++ [.inst 351 [(13,u),(14,.ref kL)]]) σ.length vs w:=by
 obtain ⟨h1,h2,⟨fs,h3,h4⟩,h5,h6,h7,h8⟩:=h
 exact ⟨⟨u,kL,fs,Zm,h1.app,h2,by rw [List.getElem?_append_left (Zas h3)];exact h3,h4⟩,h5,h6,fun y hy => V.lt_app (h7 y hy)⟩
theorem Zk0 (h:ValsAt σ u kL vs w) {t:V}:TEs (Zb 44 none) 8 [(.loc 0),(.call 34 [(.loc 1),(.loc 2)])] [some t,some u,some (.ref kL)] σ [t,.ref σ.length] (σ ++ [.inst 351 [(13,u),(14,.ref kL)]]):=by
 obtain ⟨h1,h2,⟨fs,h3,h4⟩,h5,h6,h7,h8⟩:=h
 exact TEs.cons (TE.loc rfl) (TEs.one (TE.cls rfl (.tail _ (.tail _ (.head _))) (TEs.cons (TE.loc rfl) (TEs.one (TE.loc rfl))) (ZlC (V.lt_mono (by omega) _ h8) (by have:=Zas h3;simp [V.lt];omega))))
theorem Zfm (ho:Oct ks) (hz:ks.length ≤ 1000000) (h:ValsAt σ u kL vs w) {out:List Int} (hf:Fmt ks vs w 0 0 out) (hl:out.length < 1000000):OpV 9 (Fn (.ref 376)) [.bytes ks,u,.ref kL] σ (.bytes out) σ:=by
 refine Zf (k:=0) (g:=[.inst 351 [(13,u),(14,.ref kL)]]) Z5 rfl rfl ?_ (by simp [V.lt])
 exact TSs.ret (TE.def rfl Zan (Zk0 h) (Zhp ho hz h.args hf hl))
theorem ZdY (ho:Oct ks) (hz:ks.length ≤ 1000000) (h:ValsAt σ u kL vs w) {n:Nat} (hf:FmtX ks vs w 0 0 n) (hl:n < 900000):ROp 9 (Fn (.ref 376)) [.bytes ks,u,.ref kL] σ :=
 ZcH (k:=0) Z5 rfl rfl (RSs.stop (RS.ret (RE.def rfl Zan (Zk0 h) (Zfl ho hz h.args hf hl))))
theorem ZnK (ho:Oct ks) (hz:ks.length ≤ 1000000) (h:ValsAt σ u kL vs w) {out:List Int} (hf:Fmt ks vs w 0 0 out) (hl:out.length < 1000000):OpV 10 (Fn (.ref 760)) [.bytes ks,u,.ref kL] σ (.bytes out) σ:=by
 refine Zf (k:=0) (g:=[]) Zao rfl rfl ?_ (by simp [V.lt])
 rw [List.append_nil]
 exact TSs.stop (TS.tryx (TSs.ret (TE.def rfl Z5 (TEs.cons (TE.loc rfl) (TEs.cons (TE.loc rfl) (TEs.one (TE.loc rfl)))) (Zfm ho hz h hf hl)))) trivial
theorem Zkv (ho:Oct ks) (hz:ks.length ≤ 1000000) (h:ValsAt σ u kL vs w) {n:Nat} (hf:FmtX ks vs w 0 0 n) (hl:n < 900000):TOp 10 (Fn (.ref 760)) [.bytes ks,u,.ref kL] σ :=
 Zku (k:=0) Zao rfl rfl (RE.def rfl Z5 (TEs.cons (TE.loc rfl) (TEs.cons (TE.loc rfl) (TEs.one (TE.loc rfl)))) (ZdY ho hz h hf hl))
end
noncomputable def signsL:List Int:=[97,0,10,13,34,92,37,255,48,39,9]
noncomputable def ZiB:Nat → Int → List Int
 | 0,_ => []
 | k + 1,n => signsL.getD ((n / 11) % 11).toNat 0 :: ZiB k (n / 11)
noncomputable def ZB (n:Int):List Int:=ZiB (n % 6).toNat n
theorem Zjv:∀ k n,(ZiB k n).length = k
 | 0,_ => rfl
 | k + 1,n => by rw [ZiB,List.length_cons,Zjv]
theorem Zav (n:Int):(ZB n).length ≤ 5:=by
 unfold ZB
 rw [Zjv]
 omega
theorem ZlR:∀ i,0 ≤ signsL.getD i 0 ∧ signsL.getD i 0 < 256:=by
 intro i
 rcases Nat.lt_or_ge i 11 with h | h
 ·have:∀ j:Fin 11,0 ≤ signsL.getD j 0 ∧ signsL.getD j 0 < 256:=by decide
  exact this ⟨i,h⟩
 ·rw [List.getD_eq_getElem?_getD,List.getElem?_eq_none (by simpa [signsL] using h)]
  decide
theorem Zjw:∀ k n,Oct (ZiB k n)
 | 0,_ => by intro x hx;cases hx
 | k + 1,n => by
  intro x hx
  rcases List.mem_cons.mp hx with rfl | hx
  ·exact ZlR _
  ·exact Zjw k _ x hx
theorem ZaU (n:Int):Oct (ZB n):=Zjw _ _
section
variable {sc:Scope} {d:Nat} {ρ:List (Option V)} {σ g:List AO} {n:Int}
theorem ZaV {a b e:Int} (h:-1000000 ≤ a ∧ a ≤ 1000000 ∧ -1000000 ≤ b ∧ b ≤ 1000000) (he:e = 1 ∨ e = -1):Builtin.Range.small a b e = true ∧ 0 ≤ Builtin.Range.rangeSize a b e:=by
 have hs:0 ≤ Builtin.Range.rangeSize a b e ∧ Builtin.Range.rangeSize a b e ≤ 3000000:=by
  unfold Builtin.Range.rangeSize
  rcases he with rfl | rfl
  ·rw [if_pos (by decide)]
   split <;> omega
  ·rw [if_neg (by decide),show -(-1:Int) = 1 from rfl,Int.ediv_one]
   split <;> omega
 refine ⟨?_,hs.1⟩
 obtain ⟨s1,s2⟩:=hs
 generalize hr:Builtin.Range.rangeSize a b e = r at s1 s2
 unfold Builtin.Range.small Builtin.Range.rangeFitsLong
 rw [hr]
 simp only [Bool.and_eq_true,decide_eq_true_eq,Bool.or_eq_true]
 rcases he with rfl | rfl
 ·rw [if_pos (by decide)]
  simp only [Bool.and_eq_true,decide_eq_true_eq]
  refine ⟨⟨⟨⟨?_,?_⟩,?_⟩,?_⟩,.inr ?_⟩ <;> constructor <;> omega
 ·rw [if_neg (by decide)]
  simp only [Bool.and_eq_true,decide_eq_true_eq]
  refine ⟨⟨⟨⟨?_,?_⟩,?_⟩,?_⟩,.inr ?_⟩ <;> constructor <;> omega
theorem ZgM {m:Nat}:∀ ks:List Int,V.lts m (Za ks)
 | [] => by simp [Za,V.lts]
 | k :: ks => by
  have:=ZgM (m:=m) ks
  unfold Za at this ⊢
  simp [V.lts,V.lt,this]
theorem ZnL:OpV 1 (Fn (.ref 679)) [] σ (.ref σ.length) (σ ++ [.list (Za signsL)]):=by
 refine Zkt (sc:=Zb 94 none) (σ₂:=σ) (e:=[.list (Za signsL)]) (g:=[]) (o:=.ret (.ref σ.length)) (k:=0) Zcl rfl rfl ?_ rfl rfl (by simp [V.lt]) (fun k ao h => .inl h) fun ao hao => ?_
 ·rw [List.append_nil]
  exact TSs.ret (TE.lst (TEs.cons TE.int (TEs.cons TE.int (TEs.cons TE.int (TEs.cons TE.int (TEs.cons TE.int (TEs.cons TE.int (TEs.cons TE.int (TEs.cons TE.int (TEs.cons TE.int (TEs.cons TE.int (TEs.one TE.int)))))))))))  (by decide))
 ·rw [List.mem_singleton] at hao
  subst hao
  exact ZgM _
noncomputable def Zkw:List MS:=[(.assign (.loc 0) (.bin .FloorDiv (.loc 0) (.cst (.int (11))))),(.expr (.callm (.loc 1) 28 [(.sub (.call 62 []) (.bin .Mod (.loc 0) (.cst (.int (11)))))]))]
theorem ZnM {acc:List Int} {t:Option V} (hz:acc.length ≤ 1000):TSs sc 1 Zkw [some (.int n),some (.ref σ.length),t] (σ ++ .list (Za acc) :: g) (.next [some (.int (n / 11)),some (.ref σ.length),t]) (σ ++ .list (Za (acc ++ [signsL.getD ((n / 11) % 11).toNat 0])) :: (g ++ [.list (Za signsL)])):=by
 refine TSs.set (v:=.int (n / 11)) (TE.bin (TE.loc rfl) TE.int (Zw (by decide) (by decide))) ?_
 have h0:0 ≤ (n / 11) % 11:=Int.emod_nonneg _ (by decide)
 have h1:(n / 11) % 11 < 11:=Int.emod_lt_of_pos _ (by decide)
 have e1:TE sc 1 (.call 62 []) [some (.int (n / 11)),some (.ref σ.length),t] (σ ++ .list (Za acc) :: g) (.ref (σ ++ .list (Za acc) :: g).length) (σ ++ .list (Za acc) :: g ++ [.list (Za signsL)]):=TE.def rfl Zcl TEs.nil ZnL
 have il:IsL (σ ++ .list (Za acc) :: g ++ [.list (Za signsL)]) (.ref (σ ++ .list (Za acc) :: g).length) (Za signsL):=Zm
 have hg:(Za signsL)[((n / 11) % 11).toNat]? = some (.int (signsL.getD ((n / 11) % 11).toNat 0)):=by
  unfold Za
  rw [List.getElem?_map,List.getD_eq_getElem?_getD,List.getElem?_eq_getElem (by show _ < 11;omega)]
  rfl
 have e2:TE sc 1 (.sub (.call 62 []) (.bin .Mod (.loc 0) (.cst (.int 11)))) [some (.int (n / 11)),some (.ref σ.length),t] (σ ++ .list (Za acc) :: g) (.int (signsL.getD ((n / 11) % 11).toNat 0)) (σ ++ .list (Za acc) :: (g ++ [.list (Za signsL)])):=by
  rw [← Zkb]
  exact TE.sub e1 (TE.bin (TE.loc rfl) TE.int (Z8 (by decide))) (ZcA il h0 (by omega) hg)
 have ap:TE sc 1 (.callm (.loc 1) 28 [(.sub (.call 62 []) (.bin .Mod (.loc 0) (.cst (.int (11)))))]) [some (.int (n / 11)),some (.ref σ.length),t] (σ ++ .list (Za acc) :: g) .none (σ ++ .list (Za acc ++ [.int (signsL.getD ((n / 11) % 11).toNat 0)]) :: (g ++ [.list (Za signsL)])) :=
  TE.callm (TE.loc rfl) (ZP ZI at0) (TEs.one e2) (ZaL (by rw [Zg];omega))
 have ev:Za acc ++ [V.int (signsL.getD ((n / 11) % 11).toNat 0)] = Za (acc ++ [signsL.getD ((n / 11) % 11).toNat 0]):=by unfold Za;simp
 rw [ev] at ap
 exact TSs.do ap TSs.nil
theorem ZnN:∀ (ts:List Int) (n:Int) (acc:List Int) (g:List AO) (t:Option V),acc.length + ts.length ≤ 1000 → ∃ g' n' t',Lp sc 1 (fun _ => True) (.loc 2) Zkw (Za ts) [some (.int n),some (.ref σ.length),t] (σ ++ .list (Za acc) :: g) (.next [some (.int n'),some (.ref σ.length),t']) (σ ++ .list (Za (acc ++ ZiB ts.length n)) :: g')
 | [],n,acc,g,t,_ => ⟨g,n,t,by rw [List.length_nil,ZiB,List.append_nil];exact .nil⟩
 | x :: ts,n,acc,g,t,hz => by
  rw [List.length_cons] at hz
  obtain ⟨g',n',t',h⟩:=ZnN ts (n / 11) (acc ++ [signsL.getD ((n / 11) % 11).toNat 0]) (g ++ [.list (Za signsL)]) (some (.int x)) (by rw [List.length_append];simp;omega)
  refine ⟨g',n',t',?_⟩
  rw [List.append_assoc] at h
  exact .cons TA.loc (ZnM (by omega)) trivial h
theorem octets_ok:OpV 2 (Fn (.ref 704)) [.int n] σ (.bytes (ZB n)) σ:=by
 have h0:0 ≤ n % 6:=Int.emod_nonneg _ (by decide)
 have h1:n % 6 < 6:=Int.emod_lt_of_pos _ (by decide)
 have rs:Zco 0 (n % 6) 1 = (n % 6).toNat:=by
  unfold Zco Builtin.Range.rangeSize
  rw [if_pos (by decide)]
  split <;> omega
 obtain ⟨g',n',t',h⟩:=ZnN (sc:=Zb 97 none) (σ:=σ) (Zb6 0 1 (Zco 0 (n % 6) 1)) n [] [.rng 0 (n % 6) 1] none (by rw [ZaF,rs];simp;omega)
 rw [ZaF,rs,List.nil_append] at h
 refine Zf (d:=1) (k:=2) (g:=.list (Za (ZiB (n % 6).toNat n)) :: g') ZU rfl rfl ?_ (by simp [V.lt])
 refine TSs.set (v:=.ref σ.length) (TE.lst TEs.nil) ?_
 have hr:(σ ++ [.list []] ++ [.rng 0 (n % 6) 1])[(σ ++ [AO.list []]).length]? = some (.rng 0 (n % 6) 1):=Zm
 have it:=Zcp (d:=1) hr (ZaV (by omega) (.inl rfl)).1 (ZaV (by omega) (.inl rfl)).2
 rw [rs] at it
 have e1:σ ++ [AO.list []] ++ [AO.rng 0 (n % 6) 1] = σ ++ [AO.list (Za []),AO.rng 0 (n % 6) 1]:=by rw [List.append_assoc];rfl
 have tf:TS (Zb 97 none) 1 (.for (.loc 2) (.call 83 [(.bin .Mod (.loc 0) (.cst (.int (6))))]) Zkw) [some (.int n),some (.ref σ.length),none] (σ ++ [.list []]) (.next [some (.int n'),some (.ref σ.length),t']) (σ ++ .list (Za (ZiB (n % 6).toNat n)) :: g') :=
  TS.for (TE.blt (j:=9) rfl (by decide +kernel) rfl (TEs.one (TE.bin (TE.loc rfl) TE.int (Z8 (by decide)))) Zfi) it (by rw [e1];exact h)
 refine TSs.cons tf (TSs.ret ?_)
 exact TE.blt (j:=2) rfl (by decide +kernel) rfl (TEs.one (TE.loc rfl)) (Z4 (v:=.ref σ.length) at0 (ZaU n) (Nat.le_trans (Zav n) (by decide)))
end
noncomputable def Zjx (n:Int):List Int:=(ZB (n / 4) ++ rep 101 [122]).take (98 + n % 4).toNat
theorem ZoU (k:Nat) (x:Int):rep k [x] = List.replicate k x:=by
 unfold rep
 rw [Int.toNat_natCast]
 induction k with
 | zero => rfl
 | succ k ih => rw [List.replicate_succ,List.flatten_cons,ih];rfl
theorem ZlS (n:Int):Oct (Zjx n):=by
 intro x hx
 have:=List.mem_of_mem_take hx
 rcases List.mem_append.mp this with h | h
 ·exact ZaU _ x h
 ·have e:rep 101 [122] = List.replicate 101 122:=ZoU 101 122
  rw [e] at h
  rw [(List.mem_replicate.mp h).2];decide
theorem ZlT (n:Int):(Zjx n).length ≤ 101:=by
 unfold Zjx
 have h0:0 ≤ n % 4:=Int.emod_nonneg _ (by decide)
 have h1:n % 4 < 4:=Int.emod_lt_of_pos _ (by decide)
 rw [List.length_take]
 omega
theorem ZnO {b:Nat} (hb:2 ≤ b):∀ n,n < b ^ (lsd b n).length:=by
 intro n
 induction n using Nat.strongRecOn with
 | _ n ih =>
  rcases Nat.lt_or_ge n b with h | h
  ·rw [Z3 h];simpa using h
  ·rw [Zbo hb h,List.length_cons,Nat.pow_succ]
   have:=ih (n / b) (Nat.div_lt_self (by omega) (by omega))
   exact (Nat.div_lt_iff_lt_mul (by omega)).mp this
theorem ZnP {b:Nat} (hb:2 ≤ b):∀ n m,1 ≤ m → m < (lsd b n).length → b ^ m ≤ n:=by
 intro n
 induction n using Nat.strongRecOn with
 | _ n ih =>
  intro m h1 hm
  rcases Nat.lt_or_ge n b with h | h
  ·rw [Z3 h] at hm;simp at hm;omega
  ·rw [Zbo hb h,List.length_cons] at hm
   cases m with
   | zero => omega
   | succ k =>
    cases k with
    | zero => simpa using h
    | succ k =>
     have:=ih (n / b) (Nat.div_lt_self (by omega) (by omega)) (k + 1) (by omega) (by omega)
     rw [Nat.pow_succ]
     exact (Nat.le_div_iff_mul_le (by omega)).mp this
theorem ZfZ (b n:Nat):1 ≤ (lsd b n).length:=by
 rw [lsd];split <;> simp
noncomputable def Closed (g:List AO):Prop:=∀ ao ∈ g,∀ n,ao.lt n
theorem Closed.nil:Closed []:=fun _ h => by cases h
theorem Closed.cons {x:AO} {g:List AO} (h:∀ n,x.lt n) (hg:Closed g):Closed (x :: g):=fun ao hao => by
 rcases List.mem_cons.mp hao with rfl | hao
 ·exact h
 ·exact hg ao hao
theorem Closed.app {g g':List AO} (h:Closed g) (h':Closed g'):Closed (g ++ g'):=fun ao hao => by
 rcases List.mem_append.mp hao with q | q
 ·exact h ao q
 ·exact h' ao q
theorem Zo (ks:List Int):∀ n,AO.lt n (.list (Za ks)):=fun _ => ZgM ks
noncomputable def OpL (d:Nat) (f:List Value → Sem Value) (as:List V) (σ:List AO) (out:List Int):Prop:=∃ g,Closed g ∧ OpV d f as σ (.ref (σ ++ g).length) (σ ++ g ++ [.list (Za out)])
section
variable {sc:Scope} {d:Nat} {ρ:List (Option V)} {σ g:List AO} {n:Int}
theorem long_ok:OpV 3 (Fn (.ref 711)) [.int n] σ (.bytes (Zjx n)) σ:=by
 have h0:0 ≤ n % 4:=Int.emod_nonneg _ (by decide)
 have h1:n % 4 < 4:=Int.emod_lt_of_pos _ (by decide)
 have e:98 + n % 4 = (((98 + n % 4).toNat:Nat):Int):=by omega
 have lr:(rep 101 [122]).length = 101:=by decide
 have lo:=Zav (n / 4)
 refine Zf (d:=2) (k:=0) (g:=[]) ZcG rfl rfl ?_ (by simp [V.lt])
 rw [List.append_nil]
 refine TSs.ret ?_
 unfold Zjx
 rw [← ZgA,← e]
 exact TE.slc (TE.bin (TE.def rfl ZU (TEs.one (TE.bin (TE.loc rfl) TE.int (Zw (by decide) (by decide)))) octets_ok) (TE.bin TE.byt TE.int (ZkL (by decide) (by decide) (by decide) (by decide))) (Z0 (by omega))) TO.none (TO.some (TE.bin TE.int (TE.bin (TE.loc rfl) TE.int (Z8 (by decide))) ZK)) (Zbt .none .int (by rw [List.length_append,lr];omega))
noncomputable def Zkx:ME:=.cmp (.loc 0) [.GtE] [(.bin .Pow (.loc 1) (.loc 2))]
theorem ZlU {b n:Nat} (hb:2 ≤ b) (hb':b ≤ 16) (hL:(lsd b n).length ≤ 900):∀ (j m:Nat),j = (lsd b n).length - m → 1 ≤ m → m ≤ (lsd b n).length → ∃ k,Wh sc d Zkx [(.assign (.loc 2) (.bin .Add (.loc 2) (.cst (.int (1)))))] k [some (.int (n:Int)),some (.int (b:Int)),some (.int (m:Int))] σ (.next [some (.int (n:Int)),some (.int (b:Int)),some (.int ((lsd b n).length:Int))]) σ:=by
 intro j
 induction j with
 | zero =>
  intro m hj h1 h2
  have e:m = (lsd b n).length:=by omega
  subst e
  have t:TB sc d Zkx [some (.int (n:Int)),some (.int (b:Int)),some (.int ((lsd b n).length:Int))] σ false σ :=
   TB.eqv (TB.cmp (TE.loc rfl) (TE.bin (TE.loc rfl) (TE.loc rfl) (Ze5 (by omega) (by omega) (by omega))) Zex) (by
    have:=ZnO hb n
    rw [decide_eq_false_iff_not,Int.toNat_natCast]
    intro q
    have:b ^ (lsd b n).length ≤ n:=by exact_mod_cast q
    omega)
  exact ⟨0,.done t⟩
 | succ j ih =>
  intro m hj h1 h2
  obtain ⟨k,hk⟩:=ih (m + 1) (by omega) (by omega) (by omega)
  have t:TB sc d Zkx [some (.int (n:Int)),some (.int (b:Int)),some (.int (m:Int))] σ true σ :=
   TB.eqv (TB.cmp (TE.loc rfl) (TE.bin (TE.loc rfl) (TE.loc rfl) (Ze5 (by omega) (by omega) (by omega))) Zex) (by
    have:=ZnP hb n m h1 (by omega)
    rw [decide_eq_true_iff,Int.toNat_natCast]
    exact_mod_cast this)
  exact ⟨k + 1,.step t (TSs.set (v:=.int ((m + 1:Nat):Int)) (TE.eqv (TE.bin (TE.loc rfl) TE.int ZK) (by simp)) TSs.nil) hk⟩
theorem ZlV {b n:Nat} (hb:2 ≤ b) (hb':b ≤ 16) (hL:(lsd b n).length ≤ 900):OpV 1 (Fn (.ref 718)) [.int (n:Int),.int (b:Int)] σ (.int ((lsd b n).length:Int)) σ:=by
 obtain ⟨k,hk⟩:=ZlU (sc:=Zb 99 none) (d:=0) (σ:=σ) hb hb' hL _ 1 rfl (Nat.le_refl _) (ZfZ b n)
 refine Zf (k:=1) (g:=[]) Zb2 rfl rfl ?_ (by simp [V.lt])
 rw [List.append_nil]
 exact TSs.set (v:=.int ((1:Nat):Int)) TE.int (TSs.cons (TS.while hk) (TSs.ret (TE.loc rfl)))
end
noncomputable def Zcc (fl:List Int) (w:Int) (b:List Int):List Int:=if fl.contains 45 = true then b ++ List.replicate (w - b.length).toNat 32 else List.replicate (w - b.length).toNat 32 ++ b
noncomputable def ZD:List Int → List Int
 | [] => []
 | x :: xs => if x = 0 then [] else x :: ZD xs
section
variable {sc:Scope} {d:Nat} {ρ:List (Option V)} {σ g:List AO} {n w:Int} {fl b ks:List Int} {f u:V}
theorem Zcx {A:Addr} {k:Nat} {m:Nat} {ms:List MS} {vs:List V} {out:List Int} (hc:Zc A sc m ms) (hn:vs.length = m) (hg:Closed g)
  (hb:TSs sc d ms (vs.map some ++ List.replicate k none) σ (.ret (.ref (σ ++ g).length)) (σ ++ g ++ [.list (Za out)])):OpL (d + 1) (Fn (.ref A)) vs σ out:=by
 refine ⟨g,hg,?_⟩
 have hb':=hb
 rw [← List.append_nil (σ ++ g ++ [AO.list (Za out)])] at hb'
 refine ZeX (k:=k) (g:=[]) (o:=.ret _) hc hn rfl hb' rfl (by simp [V.lt]) ?_
 rw [List.append_assoc]
 exact Keep.app fun ao hao => (hg.app (Closed.cons (Zo out) .nil)) ao hao _
theorem ZnQ (k:Nat) (x:Int):(List.replicate k [V.int x]).flatten = Za (List.replicate k x):=by
 induction k with
 | zero => rfl
 | succ k ih => rw [List.replicate_succ,List.flatten_cons,ih];rfl
theorem Zf0 (hf:IsL σ f (Za fl)) (hb:IsL σ u (Za b)) (hw:-1000 ≤ w ∧ w ≤ 1000) (hz:b.length ≤ 900000):OpL 1 (Fn (.ref 725)) [f,.int w,u] σ (Zcc fl w b):=by
 have hl:=Zg b
 have t1:TE (Zb 100 none) 0 (.bin .Mult (.lst [(.cst (.int (32)))]) (.bin .Sub (.loc 1) (.call 75 [(.loc 2)]))) [some f,some (.int w),some u,none] σ (.ref (σ ++ [AO.list [.int 32]]).length) (σ ++ [.list [.int 32]] ++ [.list (Za (List.replicate (w - b.length).toNat 32))]):=by
  have h32:IsL (σ ++ [.list [.int 32]]) (.ref σ.length) [.int 32]:=Zm
  have m1:=ZiY (d:=0) (a:=w - b.length) h32 (by omega) (by simp;omega) (by omega)
  rw [ZnQ] at m1
  refine TE.bin (TE.lst (TEs.one TE.int)) (TE.bin (TE.loc rfl) (TE.blt (j:=1) rfl rfl rfl (TEs.one (TE.loc rfl)) ?_) Z7) m1
  have:=Zey (d:=0) (v:=u) (vs:=Za b) (hb.app (g:=[.list [.int 32]])) (by rw [hl];omega)
  rwa [hl] at this
 refine Zcx (k:=1) (g:=[.list [.int 32],.list (Za (List.replicate (w - b.length).toNat 32))]) ZV rfl (.cons (Zo [32]) (.cons (Zo _) .nil)) ?_
 have ea:σ ++ [AO.list [.int 32],.list (Za (List.replicate (w - b.length).toNat 32))] = σ ++ [.list [.int 32]] ++ [.list (Za (List.replicate (w - b.length).toNat 32))]:=by simp
 rw [ea]
 have ib:IsL (σ ++ [.list [.int 32]] ++ [.list (Za (List.replicate (w - b.length).toNat 32))]) u (Za b):=hb.app.app
 have jf:IsL (σ ++ [.list [.int 32]] ++ [.list (Za (List.replicate (w - b.length).toNat 32))]) f (Za fl):=hf.app.app
 have ip:IsL (σ ++ [.list [.int 32]] ++ [.list (Za (List.replicate (w - b.length).toNat 32))]) (.ref (σ ++ [AO.list [.int 32]]).length) (Za (List.replicate (w - b.length).toNat 32)):=Zm
 refine TSs.set t1 (TSs.ret ?_)
 have hz2:(w - b.length).toNat ≤ 1000:=by omega
 have tb:TB (Zb 100 none) 0 (.cmp (.cst (.int 45)) [.In] [.loc 0]) [some f,some (.int w),some u,some (.ref (σ ++ [AO.list [.int 32]]).length)] (σ ++ [.list [.int 32]] ++ [.list (Za (List.replicate (w - b.length).toNat 32))]) (fl.contains 45) (σ ++ [.list [.int 32]] ++ [.list (Za (List.replicate (w - b.length).toNat 32))]) :=
  TB.cmp TE.int (TE.loc rfl) (ZeH jf)
 unfold Zcc
 cases hc:fl.contains 45 with
 | true =>
  rw [hc] at tb
  rw [if_pos rfl,← ZaB]
  exact TE.ite_t tb (TE.bin (TE.loc rfl) (TE.loc rfl) (Zbv ib ip (by rw [hl,Zg,List.length_replicate];omega)))
 | false =>
  rw [hc] at tb
  rw [if_neg (by decide),← ZaB]
  exact TE.ite_f tb (TE.bin (TE.loc rfl) (TE.loc rfl) (Zbv ip ib (by rw [hl,Zg,List.length_replicate];omega)))
noncomputable def Zqn:List MS:=[(.ife (.cmp (.loc 2) [.Eq] [(.cst (.int (0)))]) [(.ret (some (.loc 1)))] []),(.expr (.callm (.loc 1) 28 [(.loc 2)]))]
theorem ZpD {x:V} {K:List AO → Prop} (hK:∀ acc,K (σ ++ [.list (Za acc)])):∀ (ks acc:List Int) (t:Option V),acc.length + ks.length ≤ 1000000 → ∃ o,Lp sc d K (.loc 2) Zqn (Za ks) [some x,some (.ref σ.length),t] (σ ++ [.list (Za acc)]) o (σ ++ [.list (Za (acc ++ ZD ks))]) ∧ (o = .ret (.ref σ.length) ∨ ∃ t',o = .next [some x,some (.ref σ.length),t'])
 | [],acc,t,_ => ⟨_,by rw [ZD,List.append_nil];exact .nil,.inr ⟨t,rfl⟩⟩
 | k :: ks,acc,t,hz => by
  rw [List.length_cons] at hz
  have tb:TB sc d (.cmp (.loc 2) [.Eq] [(.cst (.int (0)))]) [some x,some (.ref σ.length),some (.int k)] (σ ++ [.list (Za acc)]) (k == 0) (σ ++ [.list (Za acc)]):=TB.cmp (TE.loc rfl) TE.int op_eq
  unfold ZD
  by_cases hk:k = 0
  ·rw [show (k == 0) = true by simpa using hk] at tb
   rw [if_pos hk,List.append_nil]
   exact ⟨_,.ret TA.loc (TSs.if_ret tb (TSs.ret (TE.loc rfl))),.inl rfl⟩
  ·rw [show (k == 0) = false by simpa using hk] at tb
   rw [if_neg hk]
   obtain ⟨o,h,ho⟩:=ZpD hK ks (acc ++ [k]) (some (.int k)) (by rw [List.length_append];simp;omega)
   rw [List.append_assoc] at h
   refine ⟨o,.cons TA.loc (TSs.if_go tb (TSs.do (v:=.none) ?_ TSs.nil)) (hK _) h,ho⟩
   have ap:=ZaL (d:=d) (σ:=σ) (g:=[]) (vs:=Za acc) (v:=.int k) (by rw [Zg];omega)
   rw [Zbl] at ap
   exact TE.callm (TE.loc rfl) (ZP ZI at0) (TEs.one (TE.loc rfl)) ap
theorem Zjy {x:V} {K:List AO → Prop} (hi:ZeD 1 x (σ ++ [.list []]) K (Za ks)) (hK:∀ acc,K (σ ++ [.list (Za acc)])) (hz:ks.length ≤ 1000000):OpL 2 (Fn (.ref 746)) [x] σ (ZD ks):=by
 obtain ⟨o,h,ho⟩:=ZpD (sc:=Zb 103 none) (d:=1) (x:=x) hK ks [] none (by simpa using hz)
 rw [List.nil_append] at h
 refine Zcx (k:=2) (g:=[]) ZS rfl .nil ?_
 rw [List.append_nil]
 refine TSs.set (v:=.ref σ.length) (TE.lst TEs.nil) ?_
 have tf:=TS.for (TE.loc (sc:=Zb 103 none) (d:=1) (i:=0) (ρ:=[some x,some (.ref σ.length),none]) (v:=x) rfl) hi h
 rcases ho with rfl | ⟨t',rfl⟩
 ·exact TSs.stop tf trivial
 ·exact TSs.cons tf (TSs.ret (TE.loc rfl))
end
noncomputable def pV:Option Nat → V
 | none => .none
 | some q => .int q
noncomputable def wM1 (P:Option Nat) (n b:Nat):Nat:=if (decide (P = some 0) && (decide (n = 0) && true)) = true then 0 else (lsd b n).length
noncomputable def wT2 (P:Option Nat) (m:Nat):Bool:=match P with
 | none => false
 | some q => decide (m < q)
noncomputable def wM2 (P:Option Nat) (m:Nat):Nat:=if wT2 P m = true then P.getD 0 else m
noncomputable def wT3 (fl:List Int) (b n m:Nat):Bool:=decide (b = 8) && (fl.contains 35 && (decide (8 ^ m / 8 ≤ n) && ((decide (0 < n) || (decide (m = 0) || false)) && true)))
noncomputable def wM3 (fl:List Int) (b n m:Nat):Nat:=if wT3 fl b n m = true then m + 1 else m
noncomputable def wT4 (fl:List Int) (w:Nat) (P:Option Nat) (h m:Nat):Bool:=fl.contains 48 && (!fl.contains 45 && (P.isNone && (decide (m + h < w) && true)))
noncomputable def wM4 (fl:List Int) (w:Nat) (P:Option Nat) (h m:Nat):Nat:=if wT4 fl w P h m = true then w - h else m
noncomputable def ZaW (gr:Bool) (k:Nat):Int:=if k < 10 then 48 + k else (if gr = true then 55 else 87) + k
noncomputable def wDigs (gr:Bool) (n b:Nat):Nat → List Int
 | 0 => []
 | m + 1 => ZaW gr (n / b ^ m % b) :: wDigs gr n b m
noncomputable def ZZ (fl:List Int) (w:Nat) (P:Option Nat) (n b h:Nat):Nat:=wM4 fl w P h (wM3 fl b n (wM2 P (wM1 P n b)))
noncomputable def wrL (fl:List Int) (w:Nat) (P:Option Nat) (n b:Nat) (hd:List Int) (gr:Bool):List Int:=Zcc fl w (hd ++ wDigs gr n b (ZZ fl w P n b hd.length))
theorem ZcI (gr:Bool) (n b:Nat):∀ m,(wDigs gr n b m).length = m
 | 0 => rfl
 | m + 1 => by rw [wDigs,List.length_cons,ZcI]
section
variable {sc:Scope} {d:Nat} {ρ:List (Option V)} {σ g:List AO} {fl hd:List Int} {f u:V} {P:Option Nat} {n b w:Nat} {gr:Bool} {many body place digit:Option V}
theorem ZgN:∀ x,pV P ≠ .ext x:=by
 intro x;cases P <;> simp [pV]
theorem Zk2:isNone (pV P) = P.isNone:=by cases P <;> rfl
theorem ZoV:OpV d (Cmp .Eq) [pV P,.int 0] σ (.bool (decide (P = some 0))) σ:=by
 cases P with
 | none =>
  refine .two fun c ι P' s x y R S r1 r2 Q kQ => ?_
  obtain rfl:=VR.none' r1
  obtain ⟨t,rfl⟩:=r2.int'
  exact up (PySem.EqNone.eq_none_int (Ze S kQ s.toks _ .bool))
 | some q => exact op_eq.eqv (by congr 1;rw [Bool.eq_iff_iff];simp)
noncomputable abbrev ZfV (f:V) (w:Nat) (P:Option Nat) (n b:Nat) (u:V) (gr:Bool) (many body place digit:Option V):List (Option V) :=
 [some f,some (.int (w:Int)),some (pV P),some (.int (n:Int)),some (.int (b:Int)),some u,some (.bool gr),many,body,place,digit]
theorem ZoW (hb:2 ≤ b) (hb':b ≤ 16) (hL:(lsd b n).length ≤ 900):TE sc 1 (.ite (.bool .And [(.cmp (.loc 2) [.Eq] [(.cst (.int (0)))]),(.cmp (.loc 3) [.Eq] [(.cst (.int (0)))])]) (.cst (.int (0))) (.call 67 [(.loc 3),(.loc 4)])) (ZfV f w P n b u gr many body place digit) σ (.int (wM1 P n b:Int)) σ:=by
 have t:TB sc 1 (.bool .And [(.cmp (.loc 2) [.Eq] [(.cst (.int (0)))]),(.cmp (.loc 3) [.Eq] [(.cst (.int (0)))])]) (ZfV f w P n b u gr many body place digit) σ (decide (P = some 0) && (decide (n = 0) && true)) σ :=
  TB.bool (TBs.and' (TB.cmp (TE.loc rfl) TE.int ZoV) fun _ => TBs.and' (TB.eqv (TB.cmp (TE.loc rfl) TE.int op_eq) (by rw [Bool.eq_iff_iff];simp)) fun _ => TBs.and_nil)
 unfold wM1
 cases hc:(decide (P = some 0) && (decide (n = 0) && true)) with
 | true =>
  rw [hc] at t
  exact TE.ite_t t TE.int
 | false =>
  rw [hc] at t
  exact TE.ite_f t (TE.def rfl Zb2 (TEs.cons (TE.loc rfl) (TEs.one (TE.loc rfl))) (ZlV hb hb' hL))
theorem ZoX {m:Nat}:TB sc 1 (.bool .And [(.cmp (.loc 2) [.IsNot] [(.cst .none)]),(.cmp (.loc 2) [.Gt] [(.loc 7)])]) (ZfV f w P n b u gr (some (.int (m:Int))) body place digit) σ (wT2 P m) σ:=by
 cases P with
 | none => exact TB.bool (TBs.and_f (TB.eqv (TB.notNone (TE.loc rfl) (by simp [pV])) rfl))
 | some q => exact TB.eqv (TB.bool (TBs.and_t (TB.eqv (TB.notNone (TE.loc rfl) (by simp [pV])) rfl) (TBs.and' (TB.cmp (TE.loc rfl) (TE.loc rfl) ZbW) fun _ => TBs.and_nil))) (by unfold wT2;rw [Bool.eq_iff_iff];simp)
theorem ZoY {m:Nat} (hf:IsL σ f (Za fl)) (hm:m ≤ 900):TB sc 1 (.bool .And [(.cmp (.loc 4) [.Eq] [(.cst (.int (8)))]),(.cmp (.cst (.int (35))) [.In] [(.loc 0)]),(.cmp (.loc 3) [.GtE] [(.bin .FloorDiv (.bin .Pow (.cst (.int (8))) (.loc 7)) (.cst (.int (8))))]),(.bool .Or [(.cmp (.loc 3) [.Gt] [(.cst (.int (0)))]),(.cmp (.loc 7) [.Eq] [(.cst (.int (0)))])])])
  (ZfV f w P n b u gr (some (.int (m:Int))) body place digit) σ (wT3 fl b n m) σ:=by
 refine TB.bool (TBs.and' (TB.eqv (TB.cmp (TE.loc rfl) TE.int op_eq) ?_) fun _ => TBs.and' (TB.cmp TE.int (TE.loc rfl) (ZeH hf)) fun _ => TBs.and' (TB.eqv (TB.cmp (TE.loc rfl) (TE.bin (TE.bin TE.int (TE.loc rfl) (Ze5 (by omega) (by omega) (by decide))) TE.int (Zw (by decide) (by decide))) Zex) ?_) fun _ => TBs.and' (TB.bool (TBs.or' (TB.eqv (TB.cmp (TE.loc rfl) TE.int ZbW) ?_) fun _ => TBs.or' (TB.eqv (TB.cmp (TE.loc rfl) TE.int op_eq) ?_) fun _ => TBs.or_nil)) fun _ => TBs.and_nil)
 ·rw [Bool.eq_iff_iff];simp;omega
 ·rw [Bool.eq_iff_iff,decide_eq_true_iff,decide_eq_true_iff,Int.toNat_natCast]
  constructor
  ·intro q;exact_mod_cast q
  ·intro q;exact_mod_cast q
 ·rw [Bool.eq_iff_iff];simp
 ·rw [Bool.eq_iff_iff];simp
theorem ZoZ {m:Nat} (hf:IsL σ f (Za fl)) (hu:IsL σ u (Za hd)) (hz:hd.length ≤ 1000):TB sc 1 (.bool .And [(.cmp (.cst (.int (48))) [.In] [(.loc 0)]),(.cmp (.cst (.int (45))) [.NotIn] [(.loc 0)]),(.cmp (.loc 2) [.Is] [(.cst .none)]),(.cmp (.bin .Sub (.loc 1) (.call 75 [(.loc 5)])) [.Gt] [(.loc 7)])])
  (ZfV f w P n b u gr (some (.int (m:Int))) body place digit) σ (wT4 fl w P hd.length m) σ:=by
 have tl:TE sc 1 (.call 75 [(.loc 5)]) (ZfV f w P n b u gr (some (.int (m:Int))) body place digit) σ (.int hd.length) σ:=by
  refine TE.blt (j:=1) rfl rfl rfl (TEs.one (TE.loc rfl)) ?_
  have:=Zey (d:=1) hu (by rw [Zg];omega)
  rwa [Zg] at this
 refine TB.bool (TBs.and' (TB.cmp TE.int (TE.loc rfl) (ZeH hf)) fun _ => TBs.and' (TB.cmp TE.int (TE.loc rfl) (Zj2 hf)) fun _ => TBs.and' (TB.eqv (TB.isN (TE.loc rfl) ZgN) Zk2) fun _ => TBs.and' (TB.eqv (TB.cmp (TE.bin (TE.loc rfl) tl Z7) (TE.loc rfl) ZbW) ?_) fun _ => TBs.and_nil)
 rw [Bool.eq_iff_iff];simp;omega
end
section
variable {sc:Scope} {d:Nat} {ρ:List (Option V)} {σ g:List AO} {fl hd acc:List Int} {f u:V} {P:Option Nat} {n b w m:Nat} {gr:Bool} {many body place digit:Option V}
noncomputable def ZpE:List MS:=[(.assign (.loc 10) (.bin .Mod (.bin .FloorDiv (.loc 3) (.bin .Pow (.loc 4) (.loc 9))) (.loc 4))),(.expr (.callm (.loc 8) 28 [(.ite (.cmp (.loc 10) [.Lt] [(.cst (.int (10)))]) (.bin .Add (.cst (.int (48))) (.loc 10)) (.bin .Add (.ite (.loc 6) (.cst (.int (55))) (.cst (.int (87)))) (.loc 10)))]))]
theorem ZlW {b k:Nat} (hb':b ≤ 16) (hb:2 ≤ b) (hk:k ≤ 40):(0:Int) < (b:Int) ^ k ∧ (b:Int) ^ k < 2 ^ 200:=by
 have h1:b ^ k ≤ 16 ^ 40:=Nat.le_trans (Nat.pow_le_pow_left hb' k) (Nat.pow_le_pow_right (by decide) hk)
 have h2:0 < b ^ k:=Nat.pow_pos (by omega)
 have h3:(16:Nat) ^ 40 < 2 ^ 200:=by decide
 constructor
 ·exact_mod_cast h2
 ·have:b ^ k < 2 ^ 200:=Nat.lt_of_le_of_lt h1 h3
  exact_mod_cast this
theorem Zqo {k:Nat} (hb:2 ≤ b) (hb':b ≤ 16) (hk:k ≤ 40) (hz:acc.length ≤ 1000):TSs sc 1 ZpE (ZfV f w P n b u gr many (some (.ref σ.length)) (some (.int (k:Int))) digit) (σ ++ .list (Za acc) :: g)
  (.next (ZfV f w P n b u gr many (some (.ref σ.length)) (some (.int (k:Int))) (some (.int ((n / b ^ k % b:Nat):Int))))) (σ ++ .list (Za (acc ++ [ZaW gr (n / b ^ k % b)])) :: g):=by
 obtain ⟨p1,p2⟩:=ZlW (k:=k) hb' hb hk
 have e1:((n:Int) / (b:Int) ^ ((k:Int)).toNat) % (b:Int) = ((n / b ^ k % b:Nat):Int):=by
  rw [Int.toNat_natCast];push_cast;rfl
 refine TSs.set (v:=.int ((n / b ^ k % b:Nat):Int)) (σ₁:=σ ++ .list (Za acc) :: g) ?_ ?_
 ·rw [← e1]
  exact TE.bin (TE.bin (TE.loc rfl) (TE.bin (TE.loc rfl) (TE.loc rfl) (Ze5 (by omega) (by omega) (by omega))) (Zw (by rw [Int.toNat_natCast];exact p1) (by rw [Int.toNat_natCast];exact p2))) (TE.loc rfl) (Z8 (by omega))
 ·generalize n / b ^ k % b = x
  have te:TE sc 1 (.ite (.cmp (.loc 10) [.Lt] [(.cst (.int (10)))]) (.bin .Add (.cst (.int (48))) (.loc 10)) (.bin .Add (.ite (.loc 6) (.cst (.int (55))) (.cst (.int (87)))) (.loc 10)))
    (ZfV f w P n b u gr many (some (.ref σ.length)) (some (.int (k:Int))) (some (.int (x:Int)))) (σ ++ .list (Za acc) :: g) (.int (ZaW gr x)) (σ ++ .list (Za acc) :: g):=by
   have tb:TB sc 1 (.cmp (.loc 10) [.Lt] [(.cst (.int (10)))]) (ZfV f w P n b u gr many (some (.ref σ.length)) (some (.int (k:Int))) (some (.int (x:Int)))) (σ ++ .list (Za acc) :: g) (decide (x < 10)) (σ ++ .list (Za acc) :: g) :=
    TB.eqv (TB.cmp (TE.loc rfl) TE.int Zbs) (by rw [Bool.eq_iff_iff];simp;omega)
   unfold ZaW
   by_cases hx:x < 10
   ·rw [decide_eq_true hx] at tb
    rw [if_pos hx]
    exact TE.ite_t tb (TE.bin TE.int (TE.loc rfl) ZK)
   ·rw [decide_eq_false hx] at tb
    rw [if_neg hx]
    refine TE.ite_f tb (TE.bin ?_ (TE.loc rfl) ZK)
    cases gr with
    | true => exact TE.ite_t (TB.val (TE.loc rfl)) TE.int
    | false => exact TE.ite_f (TB.val (TE.loc rfl)) TE.int
  have ap:=ZaL (d:=1) (σ:=σ) (g:=g) (vs:=Za acc) (v:=.int (ZaW gr x)) (by rw [Zg];omega)
  rw [Zbl] at ap
  exact TSs.do (TE.callm (TE.loc rfl) (ZP ZI at0) (TEs.one te) ap) TSs.nil
theorem Zrf (hb:2 ≤ b) (hb':b ≤ 16):∀ (m:Nat) (acc:List Int) (place digit:Option V),m ≤ 40 → acc.length + m ≤ 1000 → ∃ place' digit',Lp sc 1 (fun _ => True) (.loc 9) ZpE (Za (Zb6 ((m:Int) - 1) (-1) m)) (ZfV f w P n b u gr many (some (.ref σ.length)) place digit) (σ ++ .list (Za acc) :: g)
  (.next (ZfV f w P n b u gr many (some (.ref σ.length)) place' digit')) (σ ++ .list (Za (acc ++ wDigs gr n b m)) :: g)
 | 0,acc,place,digit,_,_ => ⟨place,digit,by rw [wDigs,List.append_nil];exact .nil⟩
 | m + 1,acc,place,digit,hm,hz => by
  obtain ⟨p',d',h⟩:=Zrf hb hb' m (acc ++ [ZaW gr (n / b ^ m % b)]) (some (.int (m:Int))) (some (.int ((n / b ^ m % b:Nat):Int))) (by omega) (by rw [List.length_append];simp;omega)
  refine ⟨p',d',?_⟩
  rw [List.append_assoc] at h
  have e1:((m + 1:Nat):Int) - 1 = (m:Int):=by omega
  rw [e1]
  have e2:(m:Int) + -1 = (m:Int) - 1:=rfl
  rw [Zb6,e2]
  exact .cons TA.loc (Zqo hb hb' (by omega) (by omega)) trivial h
theorem TSs.if_set {c e:ME} {i:Nat} {rest:List MS} {x y z:Int} {r:Bool} {o:Out} {σ':List AO} (h1:TB sc d c ρ σ r σ) (h2:r = true → TE sc d e ρ σ (.int x) σ) (h0:ρ[i]? = some (some (.int y))) (hz:(if r = true then x else y) = z)
  (h3:TSs sc d rest (ρ.set i (some (.int z))) σ o σ') (hp:ZbX e = true:=by rfl):TSs sc d (.ife c [.assign (.loc i) e] [] :: rest) ρ σ o σ':=by
 subst hz
 cases r with
 | true => exact TSs.if_do h1 (TSs.set (h2 rfl) TSs.nil hp) h3
 | false =>
  have e:ρ.set i (some (.int y)) = ρ:=by
   apply List.ext_getElem?
   intro j
   by_cases q:j = i
   ·subst q
    have hl:j < ρ.length:=by
     exact (List.getElem?_eq_some_iff.mp h0).1
    rw [List.getElem?_set_self hl,h0]
   ·rw [List.getElem?_set_ne (Ne.symm q)]
  rw [if_neg (by decide),e] at h3
  exact TSs.if_go h1 h3
theorem ZiC (r:Bool) (x y:Nat):(if r = true then (x:Int) else (y:Int)) = ((if r = true then x else y:Nat):Int):=by split <;> rfl
theorem Zel (hf:IsL σ f (Za fl)) (hu:IsL σ u (Za hd)) (hb:2 ≤ b) (hb':b ≤ 16) (hL:(lsd b n).length ≤ 30) (hP:P.getD 0 ≤ 30) (hw:w ≤ 30) (hh:hd.length ≤ 10) :
  OpL 2 (Fn (.ref 732)) [f,.int (w:Int),pV P,.int (n:Int),.int (b:Int),u,.bool gr] σ (wrL fl w P n b hd gr):=by
 have m1:wM1 P n b ≤ 30:=by unfold wM1;split <;> omega
 have m2:wM2 P (wM1 P n b) ≤ 30:=by unfold wM2;split <;> omega
 have m3:wM3 fl b n (wM2 P (wM1 P n b)) ≤ 31:=by unfold wM3;split <;> omega
 have m4:ZZ fl w P n b hd.length ≤ 31:=by unfold ZZ wM4;split <;> omega
 have hlen:(wDigs gr n b (ZZ fl w P n b hd.length)).length ≤ 31:=by rw [ZcI];exact m4
 have hloc:IsL (σ ++ .list (Za (hd ++ wDigs gr n b (ZZ fl w P n b hd.length))) :: [.rng ((ZZ fl w P n b hd.length:Int) - 1) (-1) (-1)]) f (Za fl):=hf.app
 have hloc2:IsL (σ ++ AO.list (Za (hd ++ wDigs gr n b (ZZ fl w P n b hd.length))) :: [.rng ((ZZ fl w P n b hd.length:Int) - 1) (-1) (-1)]) (.ref σ.length) (Za (hd ++ wDigs gr n b (ZZ fl w P n b hd.length))):=at0
 obtain ⟨g',hg',hpad⟩:=Zf0 (σ:=σ ++ .list (Za (hd ++ wDigs gr n b (ZZ fl w P n b hd.length))) :: [.rng ((ZZ fl w P n b hd.length:Int) - 1) (-1) (-1)]) (w:=(w:Int)) hloc (u:=.ref σ.length) (b:=hd ++ wDigs gr n b (ZZ fl w P n b hd.length)) hloc2 (by omega) (by rw [List.length_append];omega)
 refine Zcx (k:=4) (g:=.list (Za (hd ++ wDigs gr n b (ZZ fl w P n b hd.length))) :: [.rng ((ZZ fl w P n b hd.length:Int) - 1) (-1) (-1)] ++ g') Zaa rfl ((Closed.cons (Zo _) (.cons (x:=.rng ((ZZ fl w P n b hd.length:Int) - 1) (-1) (-1)) (fun _ => trivial) .nil)).app hg') ?_
 rw [← List.append_assoc]
 refine TSs.set (ZoW hb hb' (by omega)) ?_
 refine TSs.if_set (x:=(P.getD 0:Nat)) (y:=(wM1 P n b:Nat)) (z:=(wM2 P (wM1 P n b):Nat)) ZoX (fun h => ?_) rfl (ZiC _ _ _) ?_
 ·cases P with
  | none => cases h
  | some q => exact TE.loc rfl
 refine TSs.if_set (x:=((wM2 P (wM1 P n b) + 1:Nat):Int)) (y:=(wM2 P (wM1 P n b):Nat)) (z:=(wM3 fl b n (wM2 P (wM1 P n b)):Nat)) (ZoY hf (by omega)) (fun h => TE.eqv (TE.bin (TE.loc rfl) TE.int ZK) (by simp)) rfl (ZiC _ _ _) ?_
 refine TSs.if_set (x:=((w - hd.length:Nat):Int)) (y:=(wM3 fl b n (wM2 P (wM1 P n b)):Nat)) (z:=(ZZ fl w P n b hd.length:Nat)) (ZoZ hf hu (by omega)) (fun h => ?_) rfl (ZiC _ _ _) ?_
 ·have tl:OpV 1 (Fn (.builtin "len")) [u] σ (.int hd.length) σ:=by
   have:=Zey (d:=1) hu (by rw [Zg];omega)
   rwa [Zg] at this
  refine TE.eqv (TE.bin (TE.loc rfl) (TE.blt (j:=1) rfl rfl rfl (TEs.one (TE.loc rfl)) tl) Z7) ?_
  unfold wT4 at h
  simp only [Bool.and_eq_true,decide_eq_true_eq] at h
  congr 1
  omega
 refine TSs.set (v:=.ref σ.length) (TE.blt (j:=7) rfl (by decide +kernel) rfl (TEs.one (TE.loc rfl)) (Zlw hu (by rw [Zg];omega))) ?_
 obtain ⟨p',d',hlp⟩:=Zrf (σ:=σ) (f:=f) (w:=w) (P:=P) (n:=n) (b:=b) (u:=u) (gr:=gr) (sc:=Zb 101 none) (many:=some (.int (ZZ fl w P n b hd.length:Int))) (g:=[.rng ((ZZ fl w P n b hd.length:Int) - 1) (-1) (-1)]) hb hb' (ZZ fl w P n b hd.length) hd none none (by omega) (by omega)
 have hr:(σ ++ [.list (Za hd)] ++ [.rng ((ZZ fl w P n b hd.length:Int) - 1) (-1) (-1)])[(σ ++ [AO.list (Za hd)]).length]? = some (.rng ((ZZ fl w P n b hd.length:Int) - 1) (-1) (-1)):=Zm
 have rs:Zco ((ZZ fl w P n b hd.length:Int) - 1) (-1) (-1) = ZZ fl w P n b hd.length:=by
  unfold Zco Builtin.Range.rangeSize
  rw [if_neg (by decide),show -(-1:Int) = 1 from rfl,Int.ediv_one]
  split <;> omega
 have it:=Zcp (d:=1) hr (ZaV (by omega) (.inr rfl)).1 (ZaV (by omega) (.inr rfl)).2
 rw [rs] at it
 have e1:σ ++ [AO.list (Za hd)] ++ [AO.rng ((ZZ fl w P n b hd.length:Int) - 1) (-1) (-1)] = σ ++ .list (Za hd) :: [.rng ((ZZ fl w P n b hd.length:Int) - 1) (-1) (-1)]:=by rw [List.append_assoc];rfl
 have neg1:∀ {ρ:List (Option V)} {τ:List AO},TE (Zb 101 none) 1 (.bin .Sub (.cst (.int (0))) (.cst (.int (1)))) ρ τ (.int (-1)) τ:=fun {ρ τ} => TE.bin TE.int TE.int Z7
 refine TSs.cons (TS.for (TE.blt (j:=9) rfl (by decide +kernel) rfl (TEs.cons (TE.bin (TE.loc rfl) TE.int Z7) (TEs.cons neg1 (TEs.one neg1))) (ZlI (by decide) (by omega))) it (by rw [e1];exact hlp)) (TSs.ret ?_)
 exact TE.def rfl ZV (TEs.cons (TE.loc rfl) (TEs.cons (TE.loc rfl) (TEs.one (TE.loc rfl)))) hpad
end
noncomputable def Zbn (n:Int):List Int:=wrL [] 0 none n.natAbs 10 (if n < 0 then [45] else []) false
theorem ZnR (gr:Bool) (k:Nat) (h:k < 16):0 ≤ ZaW gr k ∧ ZaW gr k < 256:=by
 unfold ZaW
 split
 ·omega
 ·split <;> omega
theorem ZhP (gr:Bool) {n b:Nat} (hb:0 < b) (hb':b ≤ 16):∀ m,Oct (wDigs gr n b m)
 | 0 => by intro x hx;cases hx
 | m + 1 => by
  intro x hx
  rcases List.mem_cons.mp hx with rfl | hx
  ·exact ZnR _ _ (Nat.lt_of_lt_of_le (Nat.mod_lt _ hb) hb')
  ·exact ZhP gr hb hb' m x hx
theorem Oct.repl (k:Nat) {x:Int} (hx:0 ≤ x ∧ x < 256):Oct (List.replicate k x):=fun y hy => by
 rw [(List.mem_replicate.mp hy).2];exact hx
theorem ZgO {fl b:List Int} {w:Int} (hb:Oct b):Oct (Zcc fl w b):=by
 unfold Zcc
 split
 ·exact hb.app (Oct.repl _ (by decide))
 ·exact (Oct.repl _ (by decide)).app hb
theorem ZgP {fl b:List Int} {w:Int}:(Zcc fl w b).length = b.length + (w - b.length).toNat:=by
 unfold Zcc
 split <;> rw [List.length_append,List.length_replicate] <;> omega
theorem ZiD {fl hd:List Int} {w:Nat} {P:Option Nat} {n b:Nat} {gr:Bool} (hh:Oct hd) (hb:0 < b) (hb':b ≤ 16):Oct (wrL fl w P n b hd gr):=ZgO (hh.app (ZhP gr hb hb' _))
theorem ZeY (n:Int):Oct (Zbn n):=by
 refine ZiD ?_ (by decide) (by decide)
 split
 ·intro x hx;rw [List.mem_singleton] at hx;subst hx;decide
 ·intro x hx;cases hx
section
variable {sc:Scope} {d:Nat} {ρ:List (Option V)} {σ g:List AO} {fl:List Int} {f:V} {P:Option Nat} {w:Nat} {v l bits:Int}
theorem ZiE (n:Int):Zbn n = (if n < 0 then [45] else []) ++ wDigs false n.natAbs 10 (lsd 10 n.natAbs).length:=by
 unfold Zbn wrL Zcc
 have e:ZZ [] 0 none n.natAbs 10 (if n < 0 then [45] else []:List Int).length = (lsd 10 n.natAbs).length:=by
  unfold ZZ wM4 wT4 wM3 wT3 wM2 wT2 wM1
  simp
 rw [e,if_neg (by simp)]
 have:(((0:Nat):Int) - ((if n < 0 then [45] else []:List Int) ++ wDigs false n.natAbs 10 (lsd 10 n.natAbs).length).length).toNat = 0:=by omega
 rw [this];rfl
theorem Zem {n:Int} (hn:(lsd 10 n.natAbs).length ≤ 30):OpV 4 (Fn (.ref 739)) [.int n] σ (.bytes (Zbn n)) σ:=by
 have i0:IsL (σ ++ [.list (Za [])] ++ [.list (Za (if n < 0 then [45] else []))]) (.ref σ.length) (Za []):=by
  show (_ ++ _)[σ.length]? = _
  rw [List.append_assoc];simp
 have i1:IsL (σ ++ [.list (Za [])] ++ [.list (Za (if n < 0 then [45] else []))]) (.ref (σ ++ [AO.list (Za [])]).length) (Za (if n < 0 then [45] else [])):=Zm
 obtain ⟨g',hg',hw⟩:=Zel (fl:=[]) (hd:=if n < 0 then [45] else []) (P:=none) (n:=n.natAbs) (b:=10) (w:=0) (gr:=false) i0 i1 (by decide) (by decide) hn (by decide) (by decide) (by split <;> simp)
 have hlen:(Zbn n).length ≤ 1000000:=by
  rw [ZiE,List.length_append,ZcI]
  split <;> simp <;> omega
 refine Zf (d:=3) (k:=0) (g:=[.list (Za [])] ++ [.list (Za (if n < 0 then [45] else []))] ++ g' ++ [.list (Za (Zbn n))]) Zab rfl rfl ?_ (by simp [V.lt])
 rw [← List.append_assoc,← List.append_assoc,← List.append_assoc]
 have th:TE (Zb 102 none) 3 (.ite (.cmp (.loc 0) [.Lt] [(.cst (.int (0)))]) (.lst [(.cst (.int (45)))]) (.lst [])) [some (.int n)] (σ ++ [.list (Za [])]) (.ref (σ ++ [AO.list (Za [])]).length) (σ ++ [.list (Za [])] ++ [.list (Za (if n < 0 then [45] else []))]):=by
  have tb:TB (Zb 102 none) 3 (.cmp (.loc 0) [.Lt] [(.cst (.int (0)))]) [some (.int n)] (σ ++ [.list (Za [])]) (decide (n < 0)) (σ ++ [.list (Za [])]):=TB.cmp (TE.loc rfl) TE.int Zbs
  by_cases h:n < 0
  ·rw [decide_eq_true h] at tb
   rw [if_pos h]
   exact TE.ite_t tb (TE.lst (TEs.one TE.int))
  ·rw [decide_eq_false h] at tb
   rw [if_neg h]
   exact TE.ite_f tb (TE.lst TEs.nil)
 refine TSs.ret (TE.blt (j:=2) (bv:=.type "bytes") rfl (by decide +kernel) rfl (TEs.one (TE.def rfl Zaa (TEs.cons (TE.lst TEs.nil) (TEs.cons TE.int (TEs.cons TE.none (TEs.cons (TE.blt (j:=0) rfl rfl rfl (TEs.one (TE.loc rfl)) Zgb) (TEs.cons TE.int (TEs.cons th (TEs.one TE.tt))))))) (hw.more (by decide)))) ?_)
 exact Z4 (v:=.ref _) Zm (ZeY n) hlen
noncomputable def Zaq (fl:List Int) (v:Int):List Int:=if v < 0 then [45] else if fl.contains 43 = true then [43] else if fl.contains 32 = true then [32] else []
theorem ZfF:(Zaq fl v).length ≤ 1:=by unfold Zaq;split <;> (try split) <;> (try split) <;> simp
theorem ZlX (hf:IsL σ f (Za fl)) (hl:l = 100 ∨ l = 105) (hL:(lsd 10 v.natAbs).length ≤ 30) (hP:P.getD 0 ≤ 30) (hw:w ≤ 30) :
  OpL 4 (Fn (.ref 753)) [f,.int (w:Int),pV P,.int l,.int v,.int bits] σ (wrL fl w P v.natAbs 10 (Zaq fl v) false):=by
 have i1:IsL (σ ++ [.list (Za (Zaq fl v))]) (.ref σ.length) (Za (Zaq fl v)):=Zm
 have hh:=ZfF (fl:=fl) (v:=v)
 obtain ⟨g',hg',hwr⟩:=Zel (fl:=fl) (hd:=Zaq fl v) (P:=P) (n:=v.natAbs) (b:=10) (w:=w) (gr:=false) (hf.app (g:=[.list (Za (Zaq fl v))])) i1 (by decide) (by decide) hL hP hw (by omega)
 refine Zcx (d:=3) (k:=4) (g:=[.list (Za (Zaq fl v))] ++ g') Zy rfl ((Closed.cons (Zo _) .nil).app hg') ?_
 rw [← List.append_assoc]
 have t1:TB (Zb 104 none) 3 (.cmp (.loc 3) [.In] [(.cst (.bytes [100,105]))]) [some f,some (.int (w:Int)),some (pV P),some (.int l),some (.int v),some (.int bits),none,none,none,none] σ true σ:=by
  rcases hl with rfl | rfl <;> exact TB.eqv (TB.cmp (TE.loc rfl) TE.byt (Zay (by decide) (by decide))) (by decide)
 have th:TE (Zb 104 none) 3 (.ite (.cmp (.loc 4) [.Lt] [(.cst (.int (0)))]) (.lst [(.cst (.int (45)))]) (.ite (.cmp (.cst (.int (43))) [.In] [(.loc 0)]) (.lst [(.cst (.int (43)))]) (.ite (.cmp (.cst (.int (32))) [.In] [(.loc 0)]) (.lst [(.cst (.int (32)))]) (.lst []))))
   [some f,some (.int (w:Int)),some (pV P),some (.int l),some (.int v),some (.int bits),none,none,none,none] σ (.ref σ.length) (σ ++ [.list (Za (Zaq fl v))]):=by
  have tb:TB (Zb 104 none) 3 (.cmp (.loc 4) [.Lt] [(.cst (.int (0)))]) [some f,some (.int (w:Int)),some (pV P),some (.int l),some (.int v),some (.int bits),none,none,none,none] σ (decide (v < 0)) σ:=TB.cmp (TE.loc rfl) TE.int Zbs
  have tc:∀ a:Int,TB (Zb 104 none) 3 (.cmp (.cst (.int a)) [.In] [(.loc 0)]) [some f,some (.int (w:Int)),some (pV P),some (.int l),some (.int v),some (.int bits),none,none,none,none] σ (fl.contains a) σ:=fun a => TB.cmp TE.int (TE.loc rfl) (ZeH hf)
  unfold Zaq
  by_cases h:v < 0
  ·rw [decide_eq_true h] at tb
   rw [if_pos h]
   exact TE.ite_t tb (TE.lst (TEs.one TE.int))
  ·rw [decide_eq_false h] at tb
   rw [if_neg h]
   refine TE.ite_f tb ?_
   have t43:=tc 43
   have t32:=tc 32
   cases h43:fl.contains 43 with
   | true =>
    rw [h43] at t43
    rw [if_pos rfl]
    exact TE.ite_t t43 (TE.lst (TEs.one TE.int))
   | false =>
    rw [h43] at t43
    rw [if_neg (by decide)]
    refine TE.ite_f t43 ?_
    cases h32:fl.contains 32 with
    | true =>
     rw [h32] at t32
     rw [if_pos rfl]
     exact TE.ite_t t32 (TE.lst (TEs.one TE.int))
    | false =>
     rw [h32] at t32
     rw [if_neg (by decide)]
     exact TE.ite_f t32 (TE.lst TEs.nil)
 refine TSs.if_ret t1 (TSs.set th (TSs.ret ?_))
 exact TE.def rfl Zaa (TEs.cons (TE.loc rfl) (TEs.cons (TE.loc rfl) (TEs.cons (TE.loc rfl) (TEs.cons (TE.blt (j:=0) rfl rfl rfl (TEs.one (TE.loc rfl)) Zgb) (TEs.cons TE.int (TEs.cons (TE.loc rfl) (TEs.one TE.tt))))))) (hwr.more (by decide))
end
theorem Zkz {prog:Program} {w:World} {A:Around} {E:Value → Shared → Prop} {s:Shared} {env:Env} {a1 a2 a3 a4:Nat} {p1 p2 p3 p4 p:Pos} {Q:Value → Shared → Prop}
  (h:∀ h' tk t1 t2,h'.DictOf (intKind prog w) s.heap.objs.size [(117,.int 10 t1),(111,.int 8 t2)] → Heap.SameBut s.heap.objs.size (s.heap.push { cls:=.type "dict",data:=.dict #[] }) h' → Q (.ref s.heap.objs.size) { s with heap:=h',toks:=tk }) :
  PySem.wpAny (model prog w) A (eval (.Dict [some (.Constant (.int 117) a1 p1),some (.Constant (.int 111) a2 p2)] [.Constant (.int 10) a3 p3,.Constant (.int 8) a4 p4] p) env) Q E s:=by
 refine wpAny_Dict_walk (knd:=intKind prog w) rfl rfl (List.cons_ne_nil _ _) (by simp) ?_
 refine pairTrees_cons_walk (PySem.wpAny_Constant_int (PySem.wpAny_Constant_int ?_))
 refine pairTrees_cons_walk (PySem.wpAny_Constant_int (PySem.wpAny_Constant_int ?_))
 refine pairTrees_nil_walk ?_
 refine ⟨[(117,_),(111,_)],⟨by simp [intKind,Value.isInt],rfl,by simp [intKind,Value.isInt],rfl,trivial⟩,Heap.DictOf.new s.heap,fun h' hm hs => ?_⟩
 refine h h' _ (s.toks + 1) (s.toks + 1 + 1 + 1) ?_ hs
 have:merged [] [((117:Int),Value.int 10 (s.toks + 1)),((111:Int),Value.int 8 (s.toks + 1 + 1 + 1))] = [(117,.int 10 (s.toks + 1)),(111,.int 8 (s.toks + 1 + 1 + 1))]:=by
  simp [merged,stored]
 rw [← this]
 exact hm
noncomputable def ZiF (a:Int):Int:=if a = 117 then 10 else if a = 111 then 8 else 16
section
variable {sc:Scope} {d:Nat} {ρ:List (Option V)} {σ:List AO} {a:Int}
set_option maxHeartbeats 1000000 in
theorem ZnS {i:Nat} (hi:ρ[i]? = some (some (.int a))):TE sc d (.callm (.dict [(.cst (.int 117)),(.cst (.int 111))] [(.cst (.int 10)),(.cst (.int 8))]) 32 [(.loc i),(.cst (.int 16))]) ρ σ (.int (ZiF a)) σ:=by
 intro w h₀ A env pe ι P s E F C S Q k
 obtain ⟨o',n',ap,args,p,rfl,c1,c2,c3,c4,c5,c6⟩:=C
 show wpAny _ _ (do
  let ov ← attributeBase o' n' env (eval o' env)
  standAt ap.atName
  methodCall o' n' ap p env ov (args.length + 0) (backTo p (starEach args env)) []) _ _ _
 rw [ZeG c2]
 obtain ⟨_,_,q1,rfl,d1,d2⟩:=c1
 obtain ⟨_,_,rfl,k1,d1⟩:=d1
 obtain ⟨_,_,rfl,k2,d1⟩:=d1
 cases d1
 obtain ⟨_,_,rfl,v1,d2⟩:=d2
 obtain ⟨_,_,rfl,v2,d2⟩:=d2
 cases d2
 obtain ⟨q2,q3,rfl⟩:=k1
 obtain ⟨q4,q5,rfl⟩:=k2
 obtain ⟨q6,q7,rfl⟩:=v1
 obtain ⟨q8,q9,rfl⟩:=v2
 have hsys:(s.heap.objs.size == sysModules) = false:=by
  obtain ⟨fi,pm,cdv,oc,osl,_,hat,_⟩:=F.gl.init
  have:=Heap.lt_size (S.keep0 _ _ hat)
  rw [beq_eq_false_iff_ne]
  intro q
  rw [q] at this
  exact absurd this (by decide)
 refine wpAny_bind (up ?_)
 have B:=fun Q => @Zkz pw w A E s env q2 q4 q6 q8 q3 q5 q7 q9 q1 Q
 generalize PySem.eval (PySem.Expr.Dict _ _ _) env = tt at B ⊢
 refine B _ fun h' tk t1 t2 hm hs => ?_
 have keep:∀ b o,s.heap.get? b = some o → h'.get? b = some o:=fun b o e => (hs.2 b (Nat.ne_of_lt (Heap.lt_size e))).trans (Heap.get?_push_of_some _ e)
 have S₁:=S.ext keep
 have hfree:∀ b,s.heap.objs.size ≤ b → P b = none:=fun b hb => by
  cases e:P b with
  | none => rfl
  | some o => exact absurd (Heap.lt_size (S.keep _ _ e)) (Nat.not_lt.mpr hb)
 obtain ⟨od,ho,q2,q1⟩:∃ o,h'.get? s.heap.objs.size = some o ∧ o.dict = none ∧ o.cls = .type "dict":=by
  obtain ⟨o,es,ep,ho,⟨q1,q2,q3⟩,q4,_⟩:=hm
  exact ⟨o,ho,q2,q1⟩
 obtain ⟨S₂,le₂⟩:=S₁.freezeAt ho (hfree _ (Nat.le_refl _)) (Nat.ne_of_lt S.ltL).symm fun k x y e => ⟨(Nat.ne_of_lt (S.freshI e).1).symm,(Nat.ne_of_lt (S.freshI e).2).symm⟩
 refine wpAny_bind (wpAny_standAt ?_)
 generalize s.heap.objs.size = D at hm hs ho S₂ le₂ hsys ⊢
 have few:methodCallForm (args.length + 0) (backTo p (starEach args env)) ([]:List (Option Str × Sem Value)) = true:=by
  obtain ⟨n1,_⟩:=noStar (pos:=p) (env:=env) c5
  unfold methodCallForm
  rw [List.any_eq_false] at n1
  simp only [List.all_nil,List.isEmpty_nil,if_true,Bool.and_true,Bool.and_eq_true,List.all_eq_true,decide_eq_true_eq,Bool.not_eq_true']
  exact ⟨fun y hy => by simpa using n1 y hy,by omega⟩
 unfold methodCall
 rw [few]
 refine wpAny_bind (wpAny_holding ?_)
 show wpAny _ _ (getMethod (.ref D) n' (do return (← importBound _ env).getD true)) _ _ _
 refine up (tm_dict_get.get c3 ⟨_,ho,q1⟩ (fun b hb => by cases hb;exact ⟨_,ho,q2⟩) ?_)
 unfold methodCallPos
 rw [c4]
 refine wpAny_bind (wpAny_pure ?_)
 refine ZL (h:=h₀) c5 c6 (Looks.of_pure rfl) (.inr rfl) (TEs.cons (TE.loc hi) (TEs.cons (TE.int (i:=16)) TEs.nil) w h₀ A env _ ι _ { s with heap:=h',toks:=tk } E _ F c5 S₂ _ ?_)
 intro ι₃ P₃ g₃ t₃ i₃ p₃ S₃ xs hxs
 refine ⟨S₃.keep0,?_⟩
 obtain ⟨x,y,rfl,hx,hy⟩:=hxs.inv2
 obtain ⟨tx,rfl⟩:=hx.int'
 obtain ⟨ty,rfl⟩:=hy.int'
 have fzD:frz P D od D = some od:=if_pos rfl
 have hm₃:g₃.DictOf (intKind pw w) D [(117,.int 10 t1),(111,.int 8 t2)]:=hm.at fun o e => by
  rw [ho] at e;cases e;exact S₃.keep _ _ (p₃ _ _ fzD)
 refine up (call_meetsIn PySem.F.slot_dict_get hm₃.typeIs PySem.F.entry_dict_get (PySem.F.args_dict_get_3 _ _ _) (meets_dict_get_default (intKind pw w) (k:=a) D (by simp [intKind,Value.isInt]) hsys (.int 16 ty)) ⟨_,hm₃.mapOf,?_⟩)
 refine k ι₃ P₃ g₃ _ i₃ (le₂.trans p₃) S₃ _ ?_
 unfold ZiF valueAt
 by_cases h1:a = 117
 ·subst h1;simpa using .int
 ·by_cases h2:a = 111
  ·subst h2;simpa using .int
  ·have e1:¬ 117 = a:=fun q => h1 q.symm
   have e2:¬ 111 = a:=fun q => h2 q.symm
   simp only [List.find?_cons,e1,e2,decide_false,List.find?_nil,Option.map_none,Option.getD_none,if_neg h1,if_neg h2]
   exact .int
end
noncomputable def Zar (l:Int):Nat:=if l = 117 then 10 else if l = 111 then 8 else 16
theorem ZnT (l:Int):ZiF l = ((Zar l:Nat):Int):=by
 unfold ZiF Zar
 split
 ·rfl
 ·split <;> rfl
noncomputable def ZbQ (v:Int) (bits:Nat):Nat:=(if 0 ≤ v then v else v + 2 ^ bits).toNat
noncomputable def Zbc (fl:List Int) (l:Int) (low:Nat):List Int:=if (decide (Zar l = 16) && (fl.contains 35 && (decide (0 < low) && true))) = true then [48,l] else []
noncomputable def ZgQ (fl:List Int) (w:Nat) (P:Option Nat) (ks:List Int):List Int:=Zcc fl w (match P with | none => ZD ks | some q => (ZD ks).take q)
section
variable {sc:Scope} {d:Nat} {ρ:List (Option V)} {σ g:List AO} {fl ks:List Int} {f:V} {P:Option Nat} {w bits:Nat} {v l:Int} {x:V}
noncomputable abbrev Zhs (f:V) (w:Nat) (P:Option Nat) (l:Int) (x:V) (bits:Nat):List (Option V):=[some f,some (.int (w:Int)),some (pV P),some (.int l),some x,some (.int (bits:Int)),none,none,none,none]
theorem Zrg (h0:0 ≤ l) (h1:l < 256) (hn:[100,105].contains l = false):TB sc 3 (.cmp (.loc 3) [.In] [(.cst (.bytes [100,105]))]) (Zhs f w P l x bits) σ false σ:=TB.eqv (TB.cmp (TE.loc rfl) TE.byt (Zay h0 h1)) hn
theorem Zrh (h0:0 ≤ l) (h1:l < 256) {r:Bool} (hn:[117,111,120,88].contains l = r):TB sc 3 (.cmp (.loc 3) [.In] [(.cst (.bytes [117,111,120,88]))]) (Zhs f w P l x bits) σ r σ:=TB.eqv (TB.cmp (TE.loc rfl) TE.byt (Zay h0 h1)) hn
theorem ZrG {a:Int} {r:Bool} (hn:(l == a) = r):TB sc 3 (.cmp (.loc 3) [.Eq] [(.cst (.int a))]) (Zhs f w P l x bits) σ r σ:=TB.eqv (TB.cmp (TE.loc rfl) TE.int op_eq) hn
theorem ZlY (hf:IsL σ f (Za fl)) (hw:w ≤ 30):OpL 4 (Fn (.ref 753)) [f,.int (w:Int),pV P,.int 99,.int v,.int (bits:Int)] σ (ZD (Zcc fl w [v % 256])):=by
 have i1:IsL (σ ++ [.list (Za [v % 256])]) (.ref σ.length) (Za [v % 256]):=Zm
 obtain ⟨g1,hg1,hp⟩:=Zf0 (w:=(w:Int)) (hf.app (g:=[.list (Za [v % 256])])) i1 (by omega) (by simp)
 have hlen:(Zcc fl w [v % 256]).length ≤ 1000:=by rw [ZgP];simp;omega
 have i2:IsL (σ ++ [.list (Za [v % 256])] ++ g1 ++ [.list (Za (Zcc fl w [v % 256]))]) (.ref (σ ++ [AO.list (Za [v % 256])] ++ g1).length) (Za (Zcc fl w [v % 256])):=Zm
 obtain ⟨g2,hg2,hu⟩:=Zjy (σ:=σ ++ [.list (Za [v % 256])] ++ g1 ++ [.list (Za (Zcc fl w [v % 256]))]) (ks:=Zcc fl w [v % 256]) (Zeh (d:=1) i2.app) (fun acc => i2.app) (by omega)
 refine Zcx (d:=3) (k:=4) (g:=[.list (Za [v % 256])] ++ g1 ++ [.list (Za (Zcc fl w [v % 256]))] ++ g2) Zy rfl ((((Closed.cons (Zo _) .nil).app hg1).app (.cons (Zo _) .nil)).app hg2) ?_
 rw [← List.append_assoc,← List.append_assoc,← List.append_assoc]
 refine TSs.if_go (Zrg (by decide) (by decide) (by decide)) (TSs.if_go (Zrh (by decide) (by decide) (by decide)) (TSs.if_ret (ZrG (by decide)) (TSs.ret ?_)))
 refine TE.def rfl ZS (TEs.one (TE.def rfl ZV (TEs.cons (TE.loc rfl) (TEs.cons (TE.loc rfl) (TEs.one (TE.lst (TEs.one (TE.bin (TE.loc rfl) TE.int (Z8 (by decide)))) (by simp))))) (hp.more (by decide)))) (hu.more (by decide))
theorem ZlZ (hf:IsL σ f (Za fl)) (hl:l = 117 ∨ l = 111 ∨ l = 120 ∨ l = 88) (hbits:bits ≤ 64) (hv:-(2 ^ bits:Int) ≤ v) (hL:(lsd (Zar l) (ZbQ v bits)).length ≤ 30) (hP:P.getD 0 ≤ 30) (hw:w ≤ 30) :
  OpL 4 (Fn (.ref 753)) [f,.int (w:Int),pV P,.int l,.int v,.int (bits:Int)] σ (wrL fl w P (ZbQ v bits) (Zar l) (Zbc fl l (ZbQ v bits)) (l == 88)):=by
 have hb:2 ≤ Zar l ∧ Zar l ≤ 16:=by unfold Zar;split <;> (try split) <;> omega
 have hh:(Zbc fl l (ZbQ v bits)).length ≤ 2:=by unfold Zbc;split <;> simp
 have hlow:(if 0 ≤ v then v else v + 2 ^ bits) = ((ZbQ v bits:Nat):Int):=by
  unfold ZbQ
  split <;> omega
 have i1:IsL (σ ++ [.list (Za (Zbc fl l (ZbQ v bits)))]) (.ref σ.length) (Za (Zbc fl l (ZbQ v bits))):=Zm
 obtain ⟨g',hg',hwr⟩:=Zel (fl:=fl) (hd:=Zbc fl l (ZbQ v bits)) (P:=P) (n:=ZbQ v bits) (b:=Zar l) (w:=w) (gr:=l == 88) (hf.app (g:=[.list (Za (Zbc fl l (ZbQ v bits)))])) i1 hb.1 hb.2 hL hP hw (by omega)
 refine Zcx (d:=3) (k:=4) (g:=[.list (Za (Zbc fl l (ZbQ v bits)))] ++ g') Zy rfl ((Closed.cons (Zo _) .nil).app hg') ?_
 rw [← List.append_assoc]
 have hl2:0 ≤ l ∧ l < 256 ∧ [100,105].contains l = false ∧ [117,111,120,88].contains l = true:=by
  rcases hl with rfl | rfl | rfl | rfl <;> decide
 have tlow:TE (Zb 104 none) 3 (.ite (.cmp (.loc 4) [.GtE] [(.cst (.int (0)))]) (.loc 4) (.bin .Add (.loc 4) (.bin .Pow (.cst (.int (2))) (.loc 5)))) [some f,some (.int (w:Int)),some (pV P),some (.int l),some (.int v),some (.int (bits:Int)),none,some (.int ((Zar l:Nat):Int)),none,none] σ (.int ((ZbQ v bits:Nat):Int)) σ:=by
  rw [← hlow]
  have tb:TB (Zb 104 none) 3 (.cmp (.loc 4) [.GtE] [(.cst (.int (0)))]) [some f,some (.int (w:Int)),some (pV P),some (.int l),some (.int v),some (.int (bits:Int)),none,some (.int ((Zar l:Nat):Int)),none,none] σ (decide (0 ≤ v)) σ:=TB.cmp (TE.loc rfl) TE.int Zex
  by_cases h:0 ≤ v
  ·rw [decide_eq_true h] at tb
   rw [if_pos h]
   exact TE.ite_t tb (TE.loc rfl)
  ·rw [decide_eq_false h] at tb
   rw [if_neg h]
   refine TE.ite_f tb (TE.eqv (TE.bin (TE.loc rfl) (TE.bin TE.int (TE.loc rfl) (Ze5 (by omega) (by omega) (by decide))) ZK) ?_)
   rw [Int.toNat_natCast]
 have thead:TE (Zb 104 none) 3 (.ite (.bool .And [(.cmp (.loc 7) [.Eq] [(.cst (.int (16)))]),(.cmp (.cst (.int (35))) [.In] [(.loc 0)]),(.cmp (.loc 8) [.Gt] [(.cst (.int (0)))])]) (.lst [(.cst (.int (48))),(.loc 3)]) (.lst []))
   [some f,some (.int (w:Int)),some (pV P),some (.int l),some (.int v),some (.int (bits:Int)),none,some (.int ((Zar l:Nat):Int)),some (.int ((ZbQ v bits:Nat):Int)),none] σ (.ref σ.length) (σ ++ [.list (Za (Zbc fl l (ZbQ v bits)))]):=by
  have tb:TB (Zb 104 none) 3 (.bool .And [(.cmp (.loc 7) [.Eq] [(.cst (.int (16)))]),(.cmp (.cst (.int (35))) [.In] [(.loc 0)]),(.cmp (.loc 8) [.Gt] [(.cst (.int (0)))])])
    [some f,some (.int (w:Int)),some (pV P),some (.int l),some (.int v),some (.int (bits:Int)),none,some (.int ((Zar l:Nat):Int)),some (.int ((ZbQ v bits:Nat):Int)),none] σ (decide (Zar l = 16) && (fl.contains 35 && (decide (0 < ZbQ v bits) && true))) σ :=
   TB.bool (TBs.and' (TB.eqv (TB.cmp (TE.loc rfl) TE.int (op_eq (a:=((Zar l:Nat):Int)) (b:=16))) (by rw [Bool.eq_iff_iff,beq_iff_eq,decide_eq_true_iff];omega)) fun _ => TBs.and' (TB.cmp TE.int (TE.loc rfl) (ZeH hf)) fun _ => TBs.and' (TB.eqv (TB.cmp (TE.loc rfl) TE.int (ZbW (a:=((ZbQ v bits:Nat):Int)) (b:=0))) (by rw [Bool.eq_iff_iff,decide_eq_true_iff,decide_eq_true_iff];omega)) fun _ => TBs.and_nil)
  unfold Zbc
  cases hc:(decide (Zar l = 16) && (fl.contains 35 && (decide (0 < ZbQ v bits) && true))) with
  | true =>
   rw [hc] at tb
   rw [if_pos rfl]
   exact TE.ite_t tb (TE.lst (TEs.cons TE.int (TEs.one (TE.loc rfl))) (by simp [Za]))
  | false =>
   rw [hc] at tb
   rw [if_neg (by decide)]
   exact TE.ite_f tb (TE.lst TEs.nil)
 refine TSs.if_go (Zrg hl2.1 hl2.2.1 hl2.2.2.1) (TSs.if_ret (Zrh hl2.1 hl2.2.1 hl2.2.2.2) (TSs.set (v:=.int ((Zar l:Nat):Int)) (σ₁:=σ) ?_ (TSs.set tlow (TSs.set thead (TSs.ret ?_)))))
 ·rw [← ZnT]
  exact ZnS rfl
 ·exact TE.def rfl Zaa (TEs.cons (TE.loc rfl) (TEs.cons (TE.loc rfl) (TEs.cons (TE.loc rfl) (TEs.cons (TE.loc rfl) (TEs.cons (TE.loc rfl) (TEs.cons (TE.loc rfl) (TEs.one (TE.cmp (TE.loc rfl) TE.int op_eq)))))))) (hwr.more (by decide))
end
theorem Zen (gr:Bool) (b:Nat):∀ (m n:Nat),wDigs gr n b (m + 1) = wDigs gr (n / b) b m ++ [ZaW gr (n % b)]
 | 0,n => by simp [wDigs]
 | m + 1,n => by
  rw [wDigs,Zen gr b m n,wDigs,Nat.div_div_eq_div_mul,← Nat.pow_succ']
  rfl
theorem ZgR (gr:Bool) {b:Nat}:∀ m,wDigs gr 0 b m = List.replicate m 48
 | 0 => rfl
 | m + 1 => by rw [wDigs,ZgR gr m,Nat.zero_div,Nat.zero_mod];rfl
theorem Zeo {b:Nat} (hb:2 ≤ b):∀ n,∀ x ∈ lsd b n,x < b:=by
 intro n
 induction n using Nat.strongRecOn with
 | _ n ih =>
  intro x hx
  rcases Nat.lt_or_ge n b with h | h
  ·rw [Z3 h] at hx
   rw [List.mem_singleton] at hx;omega
  ·rw [Zbo hb h] at hx
   rcases List.mem_cons.mp hx with rfl | hx
   ·exact Nat.mod_lt _ (by omega)
   ·exact ih (n / b) (Nat.div_lt_self (by omega) (by omega)) x hx
theorem ZdK (gr:Bool) {b:Nat} (hb:2 ≤ b) (j:Nat):∀ n,wDigs gr n b ((lsd b n).length + j) = List.replicate j 48 ++ ((lsd b n).map (ZaW gr)).reverse:=by
 intro n
 induction n using Nat.strongRecOn with
 | _ n ih =>
  rcases Nat.lt_or_ge n b with h | h
  ·rw [Z3 h,List.length_singleton,Nat.add_comm,Zen,Nat.div_eq_of_lt h,ZgR,Nat.mod_eq_of_lt h];rfl
  ·rw [Zbo hb h,List.length_cons,Nat.add_right_comm,Zen,ih (n / b) (Nat.div_lt_self (by omega) (by omega)),List.map_cons,List.reverse_cons,List.append_assoc]
theorem Zl0:∀ k:Fin 16,smallD.getD k 0 = ZaW false k:=by decide
theorem Zl1:∀ k:Fin 16,greatD.getD k 0 = ZaW true k:=by decide
theorem Zqp (gr:Bool) {b n:Nat} (hb:2 ≤ b) (hb':b ≤ 16):ZaA (if gr = true then greatD else smallD) b n = (lsd b n).map (ZaW gr):=by
 unfold ZaA
 refine List.map_congr_left fun x hx => ?_
 have:=Zeo hb n x hx
 cases gr with
 | true => exact Zl1 ⟨x,by omega⟩
 | false => exact Zl0 ⟨x,by omega⟩
theorem Zri (n:Nat):dec n = (lsd 10 n).map (ZaW false):=by
 unfold dec
 refine List.map_congr_left fun x hx => ?_
 have:=Zeo (by decide) n x hx
 unfold ZaW
 rw [if_pos this]
theorem Zjz (n:Int):Zac n = Zbn n:=by
 rw [ZiE]
 unfold Zac
 have:=ZdK false (b:=10) (by decide) 0 n.natAbs
 rw [Nat.add_zero] at this
 rw [this,Zri];rfl
theorem Zk3 (gr:Bool) (P:Option Nat) {b n:Nat} {v:Int} (hv:v = 0 ↔ n = 0) (hb:2 ≤ b) (hb':b ≤ 16):ZX (pV P) v (ZaA (if gr = true then greatD else smallD) b n).reverse = wDigs gr n b (wM2 P (wM1 P n b)):=by
 rw [Zqp gr hb hb']
 have w0:=ZdK gr hb
 cases P with
 | none =>
  have e:wM2 none (wM1 none n b) = (lsd b n).length + 0:=by simp [wM2,wT2,wM1]
  rw [e,w0];rfl
 | some q =>
  show Zei q v _ = _
  unfold Zei
  by_cases h:(q:Int) = 0 ∧ v = 0
  ·obtain ⟨h1,h2⟩:=h
   have hn:=hv.mp h2
   have hq:q = 0:=by omega
   subst hq hn h2
   rw [if_pos (by simp)]
   have e:wM2 (some 0) (wM1 (some 0) 0 b) = 0:=by simp [wM2,wT2,wM1]
   rw [e];rfl
  ·rw [if_neg (by simpa using h)]
   have e1:wM1 (some q) n b = (lsd b n).length:=by
    unfold wM1
    rw [if_neg]
    simp only [Bool.and_true,Bool.and_eq_true,decide_eq_true_eq,Option.some.injEq,not_and]
    intro h1 h2
    exact h ⟨by omega,hv.mpr h2⟩
   have e2:wM2 (some q) (wM1 (some q) n b) = (lsd b n).length + (q - (lsd b n).length):=by
    rw [e1];unfold wM2 wT2
    simp only [decide_eq_true_eq,Option.getD_some]
    split <;> omega
   rw [e2,w0]
   congr 2
   rw [List.length_reverse,List.length_map]
   omega
theorem ZhQ (P:Option Nat):isNone (pV P) = P.isNone:=by cases P <;> rfl
theorem ZgS (gr:Bool) (P:Option Nat) (fl hd:List Int) {w b n m:Nat} (hb:2 ≤ b) (hm:P = none → (lsd b n).length ≤ m):Zds fl w (pV P) hd (wDigs gr n b m) = Zcc fl w (hd ++ wDigs gr n b (wM4 fl w P hd.length m)):=by
 unfold Zds
 show Zcc fl w _ = _
 congr 2
 unfold wM4 wT4
 rw [ZhQ,ZcI]
 cases P with
 | some q => simp
 | none =>
  have hm':=hm rfl
  have w0:=ZdK gr hb
  by_cases hc:(fl.contains 48 && !fl.contains 45) = true
  ·rw [hc]
   simp only [Bool.and_eq_true] at hc
   simp only [Option.isNone_none,Bool.and_self,if_true,hc.1,hc.2,Bool.true_and,Bool.and_true,decide_eq_true_eq]
   obtain ⟨j,rfl⟩:∃ j,m = (lsd b n).length + j:=⟨m - (lsd b n).length,by omega⟩
   split
   ·rename_i hlt
    have e:w - hd.length = (lsd b n).length + (j + (w - hd.length - (lsd b n).length - j)):=by omega
    rw [e,w0,w0,← List.append_assoc,List.replicate_append_replicate]
    congr 2
    omega
   ·rename_i hlt
    rw [show ((w:Int) - hd.length - ((lsd b n).length + j:Nat)).toNat = 0 by omega];rfl
  ·rw [show (fl.contains 48 && !fl.contains 45 && (none:Option Nat).isNone) = false by simpa using hc]
   rw [if_neg (by decide)]
   rw [if_neg]
   intro q
   apply hc
   simp only [Bool.and_eq_true] at q ⊢
   exact ⟨q.1,q.2.1⟩
theorem Zk4 (n b:Nat):wM2 none (wM1 none n b) = (lsd b n).length:=by simp [wM2,wT2,wM1]
theorem ZeZ {fl:List Int} {b n m:Nat} (h:b ≠ 8):wM3 fl b n m = m:=by
 unfold wM3 wT3
 rw [decide_eq_false h];rfl
theorem Zf1 (P:Option Nat) {b n:Nat} {v:Int} (hv:v = 0 ↔ n = 0) (hb:2 ≤ b) (hb':b ≤ 16):ZX (pV P) v (ZaA smallD b n).reverse = wDigs false n b (wM2 P (wM1 P n b)):=by
 have:=Zk3 false P hv hb hb'
 rwa [if_neg (by decide)] at this
theorem Zo0 (P:Option Nat) {b n:Nat} {v:Int} (hv:v = 0 ↔ n = 0) (hb:2 ≤ b) (hb':b ≤ 16):ZX (pV P) v (ZaA greatD b n).reverse = wDigs true n b (wM2 P (wM1 P n b)):=by
 have:=Zk3 true P hv hb hb'
 rwa [if_pos rfl] at this
theorem ZnU (fl:List Int) (w:Nat) (P:Option Nat) (v:Int):ZeT fl w (pV P) v = wrL fl w P v.natAbs 10 (Zaq fl v) false:=by
 unfold ZeT wrL ZZ
 rw [Zf1 P (b:=10) (n:=v.natAbs) (v:=v) (by omega) (by decide) (by decide),ZgS false P fl _ (by decide) (fun h => by subst h;rw [Zk4];exact Nat.le_refl _),ZeZ (by decide)]
 rfl
theorem Zo1 (fl:List Int) (P:Option Nat) (n:Nat):Zit fl (wDigs false n 8 (wM2 P (wM1 P n 8))) = wDigs false n 8 (wM3 fl 8 n (wM2 P (wM1 P n 8))):=by
 have hm:wM2 P (wM1 P n 8) = 0 → n = 0:=by
  intro h
  by_cases hn:n = 0
  ·exact hn
  ·exfalso
   have h1:wM1 P n 8 = (lsd 8 n).length:=by
    unfold wM1
    rw [if_neg]
    simp [hn]
   have h2:=ZfZ 8 n
   have h3:wM1 P n 8 ≤ wM2 P (wM1 P n 8):=by
    unfold wM2
    split
    ·rename_i q
     cases P with
     | none => cases q
     | some q' => unfold wT2 at q;simp only [decide_eq_true_eq] at q;simp only [Option.getD_some];omega
    ·exact Nat.le_refl _
   omega
 have hbig:n < 8 ^ wM2 P (wM1 P n 8) ∨ wM2 P (wM1 P n 8) = 0:=by
  by_cases h0:wM2 P (wM1 P n 8) = 0
  ·exact .inr h0
  ·left
   have h1:=ZnO (b:=8) (by decide) n
   by_cases hn:n = 0
   ·subst hn;exact Nat.pow_pos (by decide)
   ·have e1:wM1 P n 8 = (lsd 8 n).length:=by
     unfold wM1
     rw [if_neg]
     simp [hn]
    have h3:(lsd 8 n).length ≤ wM2 P (wM1 P n 8):=by
     rw [e1]
     unfold wM2
     split
     ·rename_i q
      cases P with
      | none => cases q
      | some q' => unfold wT2 at q;simp only [decide_eq_true_eq] at q;simp only [Option.getD_some];omega
     ·exact Nat.le_refl _
    exact Nat.lt_of_lt_of_le h1 (Nat.pow_le_pow_right (by decide) h3)
 generalize wM2 P (wM1 P n 8) = m at *
 unfold Zit wM3 wT3
 cases h35:fl.contains 35 with
 | false => simp
 | true =>
  simp only [Bool.true_and,decide_true,Bool.and_true,Bool.or_false]
  cases m with
  | zero =>
   have:=hm rfl
   subst this
   rfl
  | succ k =>
   rcases hbig with hbig | hbig
   case inr => omega
   have hd:n / 8 ^ k < 8:=by
    rw [Nat.div_lt_iff_lt_mul (Nat.pow_pos (by decide))]
    rwa [Nat.pow_succ,Nat.mul_comm] at hbig
   have e8:8 ^ (k + 1) / 8 = 8 ^ k:=by rw [Nat.pow_succ,Nat.mul_div_cancel _ (by decide)]
   have hdig:n / 8 ^ k % 8 = n / 8 ^ k:=Nat.mod_eq_of_lt hd
   rw [e8]
   have hz:n / 8 ^ (k + 1) % 8 = 0:=by
    rw [Nat.div_eq_of_lt hbig]
   by_cases hle:8 ^ k ≤ n
   ·have hpos:0 < n:=Nat.lt_of_lt_of_le (Nat.pow_pos (by decide)) hle
    have hdpos:0 < n / 8 ^ k:=Nat.div_pos hle (Nat.pow_pos (by decide))
    have hne:(wDigs false n 8 (k + 1)).take 1 ≠ [48]:=by
     rw [wDigs,List.take_succ_cons,List.take_zero,hdig]
     intro q
     have:=(List.cons.inj q).1
     unfold ZaW at this
     rw [if_pos (by omega)] at this
     omega
    rw [if_pos (by simpa using hne),if_pos (by simp [hle,hpos])]
    rw [wDigs.eq_2 false n 8 (k + 1),hz]
    rfl
   ·have hdz:n / 8 ^ k = 0:=Nat.div_eq_of_lt (by omega)
    have he:(wDigs false n 8 (k + 1)).take 1 = [48]:=by
     rw [wDigs,List.take_succ_cons,List.take_zero,hdz];rfl
    rw [if_neg (by simp [he]),if_neg (by simp [hle])]
theorem Zqq {fl:List Int} {b n m:Nat}:m ≤ wM3 fl b n m:=by
 unfold wM3;split <;> omega
theorem ZkA (fl:List Int) (w:Nat) (P:Option Nat) {l:Int} (hl:l = 117 ∨ l = 111 ∨ l = 120 ∨ l = 88) (n:Nat):Zah fl w (pV P) l n = wrL fl w P n (Zar l) (Zbc fl l n) (l == 88):=by
 have hz:((n:Int) = 0 ↔ n = 0):=by omega
 have hle:∀ {b:Nat},P = none → (lsd b n).length ≤ wM3 fl b n (wM2 P (wM1 P n b)):=fun {b} h => by
  subst h
  rw [Zk4];exact Zqq
 have hh:Zbc fl l n = if (decide (Zar l = 16) && (fl.contains 35 && ((n:Int) != 0))) = true then [48,l] else []:=by
  unfold Zbc
  have:(decide (0 < n) && true) = ((n:Int) != 0):=by
   rw [Bool.eq_iff_iff];simp;omega
  rw [this]
 unfold Zah wrL ZZ
 rw [hh]
 rcases hl with rfl | rfl | rfl | rfl
 ·rw [if_pos (by decide:((117:Int) == 117) = true),Zf1 P hz (by decide) (by decide),← ZeZ (fl:=fl) (b:=10) (n:=n) (m:=wM2 P (wM1 P n 10)) (by decide),ZgS false P fl _ (by decide) hle]
  rfl
 ·rw [if_neg (by decide),if_pos (by decide:((111:Int) == 111) = true),Zf1 P hz (by decide) (by decide),Zo1,ZgS false P fl _ (by decide) hle]
  rfl
 ·rw [if_neg (by decide),if_neg (by decide),if_pos (by decide:((120:Int) == 120) = true),Zf1 P hz (by decide) (by decide),← ZeZ (fl:=fl) (b:=16) (n:=n) (m:=wM2 P (wM1 P n 16)) (by decide),ZgS false P fl _ (by decide) hle]
  rfl
 ·rw [if_neg (by decide),if_neg (by decide),if_neg (by decide:¬ ((88:Int) == 120) = true),Zo0 P hz (by decide) (by decide),← ZeZ (fl:=fl) (b:=16) (n:=n) (m:=wM2 P (wM1 P n 16)) (by decide),ZgS true P fl _ (by decide) hle]
  rfl
theorem ZdL:∀ ks,Zb5 ks = ZD ks
 | [] => rfl
 | x :: xs => by
  unfold Zb5 ZD
  by_cases h:x = 0
  ·subst h;simp
  ·rw [if_neg h,List.takeWhile_cons_of_pos (by simpa using h)]
   have:=ZdL xs
   unfold Zb5 at this
   rw [this]
theorem Zo2 (fl:List Int) (w:Nat) (v:Int):Ziu fl w v = ZD (Zcc fl w [v % 256]):=by
 unfold Ziu
 rw [ZdL];rfl
theorem Zo3 (fl:List Int) (w:Nat) (P:Option Nat) (ks:List Int):Zfj fl w (pV P) ks = if (P.isNone && decide (99 < ks.length)) = true then ks else ZgQ fl w P ks:=by
 unfold Zfj ZgQ
 rw [ZhQ,show decide ((100:Int) ≤ ks.length) = decide (99 < ks.length) by rw [Bool.eq_iff_iff];simp;omega]
 cases P with
 | none =>
  split
  ·rfl
  ·rw [ZdL];rfl
 | some q =>
  rw [if_neg (by simp),if_neg (by simp)]
  show Zcc fl w (ZbM (Zb5 ks) none (some (q:Int))) = _
  rw [ZgA,ZdL]
noncomputable def Zb8 (n:Nat):List Int:=((lsd 10 n).map (ZaW false)).reverse
theorem ZdM (v:Int):Zbn v = (if v < 0 then [45] else []) ++ Zb8 v.natAbs:=by
 rw [ZiE]
 have:=ZdK false (b:=10) (by decide) 0 v.natAbs
 rw [Nat.add_zero] at this
 rw [this];rfl
theorem ZdN (n:Nat):∀ x ∈ Zb8 n,48 ≤ x ∧ x ≤ 57:=by
 intro x hx
 unfold Zb8 at hx
 rw [List.mem_reverse] at hx
 obtain ⟨k,hk,rfl⟩:=List.mem_map.mp hx
 have:=Zeo (by decide) n k hk
 unfold ZaW
 rw [if_pos this]
 omega
theorem ZdO (n:Nat):(Zb8 n).length = (lsd 10 n).length:=by unfold Zb8;simp
theorem Zep {x:Int} (h:48 ≤ x ∧ x ≤ 57):ZaK x = x - 48:=by unfold ZaK;rw [if_pos h]
theorem ZhR {x:Int} (h:48 ≤ x ∧ x ≤ 57):ZbA 10 x = true:=by
 unfold ZbA
 rw [Zep h,decide_eq_true (by omega),decide_eq_true (by omega)];rfl
theorem ZkB (n:Nat):Zm5 10 0 (Zb8 n) = n:=by
 induction n using Nat.strongRecOn with
 | _ n ih =>
  unfold Zb8
  rcases Nat.lt_or_ge n 10 with h | h
  ·rw [Z3 h]
   show 0 * 10 + ZaK (ZaW false n) = n
   have e:ZaW false n = 48 + (n:Int):=by unfold ZaW;rw [if_pos h]
   rw [e,Zep (by omega)];omega
  ·rw [Zbo (by decide) h,List.map_cons,List.reverse_cons]
   have:=ih (n / 10) (Nat.div_lt_self (by omega) (by omega))
   unfold Zb8 at this
   unfold Zm5 at this ⊢
   rw [List.foldl_append,this]
   show ((n / 10:Nat):Int) * 10 + ZaK (ZaW false (n % 10)) = n
   have e:ZaW false (n % 10) = 48 + ((n % 10:Nat):Int):=by unfold ZaW;rw [if_pos (Nat.mod_lt _ (by decide))]
   rw [e,Zep (by omega)];omega
theorem Zcy {p:Int → Bool}:∀ {l:List Int},(∀ x ∈ l,p x = true) → l.takeWhile p = l
 | [],_ => rfl
 | x :: xs,h => by rw [List.takeWhile_cons_of_pos (h x (by simp)),Zcy fun y hy => h y (by simp [hy])]
theorem Zl2 {p:Int → Bool} {ks:List Int} {i:Nat} (hi:i ≤ ks.length) (h:∀ x ∈ ks.drop i,p x = true):Zz p ks i = ks.length:=by
 unfold Zz
 have:(ks.drop i).takeWhile p = ks.drop i:=Zcy h
 rw [this,List.length_drop];omega
theorem Zl3 {v a b:Int} (hab:b = 2 * a) (h1:-a ≤ v) (h2:v < a):(if a ≤ v % b then v % b - b else v % b) = v:=by
 by_cases h:0 ≤ v
 ·rw [Int.emod_eq_of_lt h (by omega),if_neg (Int.not_le.mpr h2)]
 ·rw [← Int.add_emod_right,Int.emod_eq_of_lt (by omega) (by omega),if_pos (by omega)];omega
theorem ZnV {v:Int} {w:Nat} (hw:Bits w) (h1:-(2 ^ (w - 1)) ≤ v) (h2:v < 2 ^ (w - 1)):ZkR v w = v :=
 Zl3 (by rcases hw with rfl | rfl | rfl | rfl <;> decide) h1 h2
theorem Zl4 (n:Nat):∃ x xs,Zb8 n = x :: xs ∧ 48 ≤ x ∧ x ≤ 57:=by
 have h:=ZdO n
 have:=ZfZ 10 n
 cases e:Zb8 n with
 | nil => rw [e] at h;simp at h;omega
 | cons x xs =>
  have:=ZdN n x (by rw [e];simp)
  exact ⟨x,xs,rfl,this⟩
theorem ZhS (v:Int):Zz ZG (Zbn v) 0 = 0 ∧ Z9 (Zbn v) 0 = (if v < 0 then 1 else 0,decide (v < 0)):=by
 obtain ⟨x,xs,e,h1,h2⟩:=Zl4 v.natAbs
 rw [ZdM,e]
 by_cases hv:v < 0
 ·rw [if_pos hv,if_pos hv]
  constructor
  ·exact ZW (.inr rfl)
  ·unfold Z9
   rw [if_pos ⟨by simp,.inr rfl⟩,decide_eq_true hv];rfl
 ·rw [if_neg hv,if_neg hv]
  constructor
  ·refine ZW (.inr ?_)
   show ZG x = false
   unfold ZG
   rw [← Bool.not_eq_true,List.contains_iff_mem]
   simp only [List.mem_cons,List.not_mem_nil,or_false]
   omega
  ·unfold Z9
   rw [if_neg,decide_eq_false hv]
   rintro ⟨_,q⟩
   have:(([] ++ x :: xs:List Int).getD 0 0) = x:=rfl
   rw [this] at q
   omega
theorem ZjA (v:Int):(Zbn v).drop (if v < 0 then 1 else 0) = Zb8 v.natAbs:=by
 rw [ZdM]
 by_cases hv:v < 0
 ·rw [if_pos hv,if_pos hv];rfl
 ·rw [if_neg hv,if_neg hv];rfl
theorem Zdx (v:Int):(Zbn v).length = (if v < 0 then 1 else 0) + (Zb8 v.natAbs).length:=by
 rw [ZdM,List.length_append]
 by_cases hv:v < 0
 ·rw [if_pos hv,if_pos hv];rfl
 ·rw [if_neg hv,if_neg hv];rfl
theorem ZjB {v:Int} {w:Nat} (hw:Bits w) (h1:-(2 ^ (w - 1)) ≤ v) (h2:v < 2 ^ (w - 1)):Zap (Zbn v) w = .int v:=by
 obtain ⟨s1,s2⟩:=ZhS v
 have hd:=ZjA v
 have hl:=Zdx v
 have hp:1 ≤ (Zb8 v.natAbs).length:=by rw [ZdO];exact ZfZ 10 _
 unfold Zap
 rw [s1,s2]
 dsimp only
 generalize hi:(if v < 0 then 1 else 0:Nat) = i at *
 have e1:Zz (ZbA 10) (Zbn v) i = (Zbn v).length:=Zl2 (by omega) fun x hx => by
  rw [hd] at hx;exact ZhR (ZdN _ x hx)
 have e2:Zcm 10 (Zbn v) i 0 = (v.natAbs:Int):=by
  unfold Zcm
  rw [hd,Zcy fun x hx => ZhR (ZdN _ x hx),ZkB]
 rw [e1,e2,if_neg,show (if decide (v < 0) = true then -(v.natAbs:Int) else (v.natAbs:Int)) = v by
  by_cases hv:v < 0
  ·rw [if_pos (by simpa using hv)];omega
  ·rw [if_neg (by simpa using hv)];omega]
 ·rw [ZnV hw h1 h2]
 ·rw [ZW (.inl (Nat.le_refl _))]
  omega
theorem Zo4 {v:Int} (hL:(lsd 10 v.natAbs).length ≤ 30):Zcw (.bytes (Zbn v)):=by
 obtain ⟨s1,s2⟩:=ZhS v
 have hd:=ZjA v
 have hl:=Zdx v
 refine ⟨ZeY v,?_,?_⟩
 ·rw [hl,ZdO];split <;> omega
 ·rw [s1,s2]
  rintro ⟨q1,q2,q3⟩
  dsimp only at q1 q2 q3
  have hi:(if v < 0 then 1 else 0:Nat) + 1 < (Zbn v).length:=by omega
  have:(Zbn v).getD ((if v < 0 then 1 else 0) + 1) 0 ∈ Zb8 v.natAbs:=by
   rw [← hd,List.getD_eq_getElem?_getD,List.getElem?_eq_getElem hi]
   rw [List.mem_drop_iff_getElem]
   exact ⟨1,by omega,by simp [Nat.add_comm]⟩
  have:=ZdN _ _ this
  omega
theorem Zk {ks l:List Int} {i:Nat} {a:Int} (h:ks.drop i = a :: l):i < ks.length ∧ ks.getD i 0 = a ∧ ks.drop (i + 1) = l:=by
 have hi:i < ks.length:=by
  rcases Nat.lt_or_ge i ks.length with q | q
  ·exact q
  ·rw [List.drop_eq_nil_of_le q] at h;cases h
 rw [List.drop_eq_getElem_cons hi] at h
 obtain ⟨h1,h2⟩:=List.cons.inj h
 exact ⟨hi,by rw [List.getD_eq_getElem?_getD,List.getElem?_eq_getElem hi];exact h1,h2⟩
theorem Zdy {ks a l:List Int} {i:Nat} (h:ks.drop i = a ++ l):ks.drop (i + a.length) = l:=by
 rw [← List.drop_drop,h,List.drop_left]
noncomputable def Zk5:List Int → Prop
 | [] => True
 | a :: _ => Za7 a = false
theorem Zeq {ks:List Int} {f:Int} {i:Nat} (h:Zk5 (ks.drop i)):Zbp ks (f,i) = (f,i):=by
 unfold Zbp
 dsimp only
 cases e:ks.drop i with
 | nil =>
  have:ks.length ≤ i:=List.drop_eq_nil_iff.mp e
  rw [decide_eq_false (by omega)];rfl
 | cons a l =>
  rw [e] at h
  obtain ⟨h1,h2,_⟩:=Zk e
  rw [h2,show Za7 a = false from h,Bool.and_false];rfl
theorem ZbD {ks l:List Int} {f a:Int} {i:Nat} (h:ks.drop i = a :: l) (hd:Za7 a = true):Zbp ks (f,i) = (10 * f + a - 48,i + 1):=by
 obtain ⟨h1,h2,_⟩:=Zk h
 unfold Zbp
 dsimp only
 rw [h2,hd,decide_eq_true h1];rfl
noncomputable def nt (n:Nat):List Int:=if n = 0 then [] else if n < 10 then [48 + (n:Int)] else [48 + ((n / 10:Nat):Int),48 + ((n % 10:Nat):Int)]
theorem ZiG {a:Int} (h:48 ≤ a ∧ a ≤ 57):Za7 a = true:=by
 unfold Za7;rw [decide_eq_true h.1,decide_eq_true h.2];rfl
theorem ZjC {ks l:List Int} {i n:Nat} (h:ks.drop i = nt n ++ l) (hn:n < 100) (hl:Zk5 l):Zc5 ks i = ((n:Int),i + (nt n).length):=by
 unfold Zc5
 unfold nt at h ⊢
 by_cases h0:n = 0
 ·subst h0
  rw [if_pos rfl] at h ⊢
  rw [List.nil_append] at h
  have h':Zk5 (ks.drop i):=by rw [h];exact hl
  rw [Zeq h',Zeq h'];rfl
 ·rw [if_neg h0] at h ⊢
  by_cases h1:n < 10
  ·rw [if_pos h1] at h ⊢
   rw [ZbD h (ZiG (by omega)),Zeq (by rw [(Zk h).2.2];exact hl)]
   simp only [List.length_singleton]
   congr 1
   omega
  ·rw [if_neg h1] at h ⊢
   rw [ZbD h (ZiG (by omega)),ZbD (Zk h).2.2 (ZiG (by omega))]
   simp only [List.length_cons,List.length_nil]
   congr 1
   omega
theorem Zo5 {n:Nat} (h0:0 < n) (h:n < 100):Zbn (n:Int) = nt n:=by
 rw [ZdM,if_neg (by omega),List.nil_append,Int.natAbs_natCast]
 unfold nt Zb8
 rw [if_neg (by omega)]
 by_cases h1:n < 10
 ·rw [if_pos h1,Z3 h1]
  show [ZaW false n] = _
  unfold ZaW
  rw [if_pos h1]
 ·rw [if_neg h1,Zbo (by decide) (by omega),Z3 (Nat.div_lt_of_lt_mul (by omega))]
  show [ZaW false (n / 10),ZaW false (n % 10)] = _
  unfold ZaW
  rw [if_pos (by omega),if_pos (by omega)]
noncomputable def pt:Option Nat → List Int
 | none => []
 | some q => 46 :: nt q
theorem Zl5 {ks l:List Int} {j:Nat} {P:Option Nat} {a:Int} (h:ks.drop j = pt P ++ a :: l) (hP:P.getD 0 < 100) (ha:Za7 a = false) (ha':a ≠ 46):ZbH ks j = (pV P,j + (pt P).length):=by
 unfold ZbH
 cases P with
 | none =>
  obtain ⟨h1,h2,_⟩:=Zk h
  rw [h2,if_neg (by simp [ha'])];rfl
 | some q =>
  obtain ⟨h1,h2,h3⟩:=Zk h
  rw [h2,if_pos (by simp [h1]),ZjC h3 hP ha]
  show ((.int (q:Int),j + 1 + (nt q).length):V × Nat) = (.int (q:Int),j + ((nt q).length + 1))
  rw [show j + 1 + (nt q).length = j + ((nt q).length + 1) by omega]
theorem Zd5 {p:Int → Bool}:∀ {l m:List Int},(∀ x ∈ l,p x = true) → (m.takeWhile p = []) → (l ++ m).takeWhile p = l
 | [],m,_,h => h
 | x :: xs,m,h,h' => by
  rw [List.cons_append,List.takeWhile_cons_of_pos (h x (by simp)),Zd5 (fun y hy => h y (by simp [hy])) h']
noncomputable def Ltr (a:Int):Prop:=Za7 a = false ∧ a ≠ 46 ∧ Zam a = false ∧ a ≠ 37
theorem Zo6 {n:Nat} (hn:n < 100):(nt n = [] ∧ n = 0) ∨ ∃ a r,nt n = a :: r ∧ 49 ≤ a ∧ a ≤ 57:=by
 unfold nt
 by_cases h0:n = 0
 ·exact .inl ⟨if_pos h0,h0⟩
 ·right
  rw [if_neg h0]
  by_cases h1:n < 10
  ·rw [if_pos h1];exact ⟨_,_,rfl,by omega,by omega⟩
  ·rw [if_neg h1];exact ⟨_,_,rfl,by omega,by omega⟩
theorem ZhT {n:Nat} (hn:n < 100) (P:Option Nat) {a:Int} (ha:Ltr a) (l:List Int):∃ b r,nt n ++ (pt P ++ a :: l) = b :: r ∧ Zam b = false ∧ b ≠ 37:=by
 rcases Zo6 hn with ⟨h,_⟩ | ⟨b,r,h,h1,h2⟩
 ·rw [h,List.nil_append]
  cases P with
  | none => exact ⟨a,l,rfl,ha.2.2.1,ha.2.2.2⟩
  | some q => exact ⟨46,_,rfl,by decide,by decide⟩
 ·rw [h]
  refine ⟨b,_,rfl,?_,by omega⟩
  unfold Zam
  rw [← Bool.not_eq_true,List.contains_iff_mem]
  simp only [List.mem_cons,List.not_mem_nil,or_false]
  omega
theorem ZnW (P:Option Nat) {a:Int} (ha:Ltr a) (l:List Int):Zk5 (pt P ++ a :: l):=by
 cases P with
 | none => exact ha.1
 | some q => show Za7 46 = false;decide
theorem Zdz {ks fl l:List Int} {i n:Nat} {P:Option Nat} {a:Int} (h:ks.drop i = fl ++ (nt n ++ (pt P ++ a :: l))) (hf:∀ x ∈ fl,Zam x = true) (hl:fl.length ≤ 5) (hn:n < 100) (hP:P.getD 0 < 100) (ha:Ltr a) :
  Zt ks i = .dir fl (n:Int) (pV P) a (i + (fl.length + ((nt n).length + ((pt P).length + 1)))):=by
 obtain ⟨b,r,hb,hb1,_⟩:=ZhT hn P ha l
 have ht:(ks.drop i).takeWhile Zam = fl:=by
  rw [h]
  refine Zd5 hf ?_
  rw [hb,List.takeWhile_cons_of_neg (by simp [hb1])]
 have hj:Zz Zam ks i = i + fl.length:=by unfold Zz;rw [ht]
 have h2:=Zdy h
 have h3:=ZjC h2 hn (ZnW P ha l)
 have h4:=Zdy h2
 have h5:=Zl5 h4 hP ha.1 ha.2.1
 have h6:=Zdy h4
 obtain ⟨q1,q2,_⟩:=Zk h6
 unfold Zt
 rw [hj]
 dsimp only
 rw [Nat.add_sub_cancel_left,h,List.take_left,if_neg (by simp;omega),h3]
 dsimp only
 rw [h5]
 unfold ZbP
 dsimp only
 rw [q2,ha.1,Bool.and_false,if_neg (by decide),decide_eq_true q1,if_pos rfl]
 congr 1
 omega
inductive Pc where
 | plain (ks:List Int) | pct | dir (fl:List Int) (n:Nat) (P:Option Nat) (l:Int) (v:V)
noncomputable def Pc.text:Pc → List Int
 | .plain ks => ks
 | .pct => [37,37]
 | .dir fl n P l _ => 37 :: (fl ++ (nt n ++ (pt P ++ [l])))
noncomputable def Pc.vals:Pc → List V
 | .dir _ _ _ _ v => [v]
 | _ => []
noncomputable def Pc.due (w:Nat):Pc → List Int
 | .plain ks => ks
 | .pct => [37]
 | .dir fl n P l v => ZaG fl (n:Int) (pV P) l v w
noncomputable def Pc.Ok (w:Nat):Pc → Prop
 | .plain ks => ∀ x ∈ ks,x ≠ 37
 | .pct => True
 | .dir fl n P l v => (∀ x ∈ fl,Zam x = true) ∧ fl.length ≤ 5 ∧ n < 100 ∧ P.getD 0 < 100 ∧ Ltr l ∧ ItemOk (pV P) l v w
noncomputable def Zp (ps:List Pc):List Int:=ps.flatMap Pc.text
noncomputable def Zj (ps:List Pc):List V:=ps.flatMap Pc.vals
noncomputable def ZbR (w:Nat) (ps:List Pc):List Int:=ps.flatMap (Pc.due w)
theorem ZhU {vs:List V} {w m:Nat} {out:List Int}:∀ {pl ks l:List Int} {i:Nat},(∀ x ∈ pl,x ≠ 37) → ks.drop i = pl ++ l → Fmt ks vs w (i + pl.length) m out → Fmt ks vs w i m (pl ++ out)
 | [],_,_,_,_,_,h => h
 | x :: xs,ks,l,i,hx,hd,h => by
  obtain ⟨h1,h2,h3⟩:=Zk hd
  have hne:ks.getD i 0 ≠ 37:=by rw [h2];exact hx x (by simp)
  have:=Fmt.chr (vs:=vs) (w:=w) (m:=m) h1 hne (ZhU (pl:=xs) (fun y hy => hx y (by simp [hy])) h3 (by rw [List.length_cons] at h;rwa [show i + 1 + xs.length = i + (xs.length + 1) by omega]))
  rwa [h2] at this
theorem ZgT {vs:List V} {w m n:Nat}:∀ {pl ks l:List Int} {i:Nat},(∀ x ∈ pl,x ≠ 37) → ks.drop i = pl ++ l → FmtX ks vs w (i + pl.length) m n → FmtX ks vs w i m (n + pl.length)
 | [],_,_,_,_,_,h => h
 | x :: xs,ks,l,i,hx,hd,h => by
  obtain ⟨h1,h2,h3⟩:=Zk hd
  have hne:ks.getD i 0 ≠ 37:=by rw [h2];exact hx x (by simp)
  exact FmtX.chr h1 hne (ZgT (pl:=xs) (fun y hy => hx y (by simp [hy])) h3 (by rw [List.length_cons] at h;rwa [show i + 1 + xs.length = i + (xs.length + 1) by omega]))
theorem ZcW {ks l:List Int} {i:Nat} {a:Int} (h:ks.drop i = a :: l) (ha:a ≠ 37):(decide (i < ks.length) && (ks.getD i 0 == 37)) = false:=by
 rw [(Zk h).2.1,show (a == 37) = false by simpa using ha,Bool.and_false]
theorem ZjD {ks fl l:List Int} {i n:Nat} {P:Option Nat} {a:Int} (h:ks.drop i = fl ++ (nt n ++ (pt P ++ a :: l))) (hf:∀ x ∈ fl,Zam x = true) (hn:n < 100) (ha:Ltr a):(decide (i < ks.length) && (ks.getD i 0 == 37)) = false:=by
 cases fl with
 | nil =>
  obtain ⟨b,r,hb,_,hb2⟩:=ZhT hn P ha l
  rw [List.nil_append,hb] at h
  exact ZcW h hb2
 | cons x xs =>
  refine ZcW h ?_
  have:=hf x (by simp)
  intro q
  subst q
  exact absurd this (by decide)
theorem Zfn {vs l:List V} {m:Nat} {v:V} (h:vs.drop m = v :: l):vs.getD m .none = v ∧ vs.drop (m + 1) = l:=by
 have hi:m < vs.length:=by
  rcases Nat.lt_or_ge m vs.length with q | q
  ·exact q
  ·rw [List.drop_eq_nil_of_le q] at h;cases h
 rw [List.drop_eq_getElem_cons hi] at h
 obtain ⟨h1,h2⟩:=List.cons.inj h
 exact ⟨by rw [List.getD_eq_getElem?_getD,List.getElem?_eq_getElem hi];exact h1,h2⟩
theorem Zo7 {ks l:List Int} {vs vl:List V} {w i m:Nat} {out:List Int} {p:Pc} (hp:p.Ok w) (hd:ks.drop i = p.text ++ l) (hv:vs.drop m = p.vals ++ vl) (h:Fmt ks vs w (i + p.text.length) (m + p.vals.length) out):Fmt ks vs w i m (p.due w ++ out):=by
 cases p with
 | plain pl => exact ZhU hp hd h
 | pct =>
  obtain ⟨h1,h2,h3⟩:=Zk hd
  obtain ⟨h4,h5,_⟩:=Zk h3
  exact Fmt.pct h4 h2 h5 h
 | dir fl n P a v =>
  obtain ⟨q1,q2,q3,q4,q5,q6⟩:=hp
  obtain ⟨h1,h2,h3⟩:=Zk hd
  have h3':ks.drop (i + 1) = fl ++ (nt n ++ (pt P ++ a :: l)):=by rw [h3];simp
  obtain ⟨g1,g2⟩:=Zfn hv
  have r:=Zdz h3' q1 q2 q3 q4 q5
  have F:=Fmt.dir (vs:=vs) (w:=w) (m:=m) (out:=out) h1 h2 (ZjD h3' q1 q3 q5) r (by rw [g1];exact q6) (by omega) (by
   have e:i + (Pc.dir fl n P a v).text.length = i + 1 + (fl.length + ((nt n).length + ((pt P).length + 1))):=by
    simp only [Pc.text,List.length_cons,List.length_append,List.length_nil];omega
   rw [← e];exact h)
  rw [g1] at F
  exact F
theorem ZnX {ks l:List Int} {vs vl:List V} {w i m x:Nat} {p:Pc} (hp:p.Ok w) (hd:ks.drop i = p.text ++ l) (hv:vs.drop m = p.vals ++ vl) (h:FmtX ks vs w (i + p.text.length) (m + p.vals.length) x):FmtX ks vs w i m (x + (p.due w).length):=by
 cases p with
 | plain pl => exact ZgT hp hd h
 | pct =>
  obtain ⟨h1,h2,h3⟩:=Zk hd
  obtain ⟨h4,h5,_⟩:=Zk h3
  exact FmtX.pct h4 h2 h5 h
 | dir fl n P a v =>
  obtain ⟨q1,q2,q3,q4,q5,q6⟩:=hp
  obtain ⟨h1,h2,h3⟩:=Zk hd
  have h3':ks.drop (i + 1) = fl ++ (nt n ++ (pt P ++ a :: l)):=by rw [h3];simp
  obtain ⟨g1,g2⟩:=Zfn hv
  have r:=Zdz h3' q1 q2 q3 q4 q5
  have F:=FmtX.dir (vs:=vs) (w:=w) (m:=m) (n:=x) h1 h2 (ZjD h3' q1 q3 q5) r (by rw [g1];exact q6) (by omega) (by
   have e:i + (Pc.dir fl n P a v).text.length = i + 1 + (fl.length + ((nt n).length + ((pt P).length + 1))):=by
    simp only [Pc.text,List.length_cons,List.length_append,List.length_nil];omega
   rw [← e];exact h)
  rw [g1] at F
  exact F
theorem ZjE {ks:List Int} {vs:List V} {w:Nat} {out:List Int}:∀ {ps:List Pc} {l:List Int} {vl:List V} {i m:Nat},(∀ p ∈ ps,p.Ok w) → ks.drop i = Zp ps ++ l → vs.drop m = Zj ps ++ vl → Fmt ks vs w (i + (Zp ps).length) (m + (Zj ps).length) out → Fmt ks vs w i m (ZbR w ps ++ out)
 | [],_,_,_,_,_,_,_,h => h
 | p :: ps,l,vl,i,m,hp,hd,hv,h => by
  have e1:Zp (p :: ps) = p.text ++ Zp ps:=List.flatMap_cons
  have e2:Zj (p :: ps) = p.vals ++ Zj ps:=List.flatMap_cons
  have e3:ZbR w (p :: ps) = p.due w ++ ZbR w ps:=List.flatMap_cons
  rw [e1] at hd h
  rw [e2] at hv h
  rw [e3,List.append_assoc]
  rw [List.append_assoc] at hd hv
  have hv2:vs.drop (m + p.vals.length) = Zj ps ++ vl:=by rw [← List.drop_drop,hv,List.drop_left]
  refine Zo7 (hp p (by simp)) hd hv (ZjE (fun q hq => hp q (by simp [hq])) (Zdy hd) hv2 ?_)
  rw [List.length_append,List.length_append] at h
  rwa [Nat.add_assoc,Nat.add_assoc]
theorem ZhV {ks:List Int} {vs:List V} {w x:Nat}:∀ {ps:List Pc} {l:List Int} {vl:List V} {i m:Nat},(∀ p ∈ ps,p.Ok w) → ks.drop i = Zp ps ++ l → vs.drop m = Zj ps ++ vl → FmtX ks vs w (i + (Zp ps).length) (m + (Zj ps).length) x → FmtX ks vs w i m (x + (ZbR w ps).length)
 | [],_,_,_,_,_,_,_,h => h
 | p :: ps,l,vl,i,m,hp,hd,hv,h => by
  have e1:Zp (p :: ps) = p.text ++ Zp ps:=List.flatMap_cons
  have e2:Zj (p :: ps) = p.vals ++ Zj ps:=List.flatMap_cons
  have e3:ZbR w (p :: ps) = p.due w ++ ZbR w ps:=List.flatMap_cons
  rw [e1] at hd h
  rw [e2] at hv h
  rw [e3,List.length_append,Nat.add_comm (p.due w).length,← Nat.add_assoc]
  rw [List.append_assoc] at hd hv
  have hv2:vs.drop (m + p.vals.length) = Zj ps ++ vl:=by rw [← List.drop_drop,hv,List.drop_left]
  refine ZnX (hp p (by simp)) hd hv (ZhV (fun q hq => hp q (by simp [hq])) (Zdy hd) hv2 ?_)
  rw [List.length_append,List.length_append] at h
  rwa [Nat.add_assoc,Nat.add_assoc]
theorem Zqr {w:Nat} {ps:List Pc} {ex:List V} (hp:∀ p ∈ ps,p.Ok w):Fmt (Zp ps) (Zj ps ++ ex) w 0 0 (ZbR w ps):=by
 have:=ZjE (ks:=Zp ps) (vs:=Zj ps ++ ex) (w:=w) (out:=[]) (ps:=ps) (l:=[]) (vl:=ex) (i:=0) (m:=0) hp (by simp) (by simp) (.done (by simp))
 rwa [List.append_nil] at this
theorem Zo8 {w:Nat} {ps:List Pc} {wr:List Int} {ex:List V} (hp:∀ p ∈ ps,p.Ok w) (h:FmtX (Zp ps ++ wr) (Zj ps ++ ex) w (Zp ps).length (Zj ps).length 0):FmtX (Zp ps ++ wr) (Zj ps ++ ex) w 0 0 (ZbR w ps).length:=by
 have:=ZhV (ks:=Zp ps ++ wr) (vs:=Zj ps ++ ex) (w:=w) (x:=0) (ps:=ps) (l:=wr) (vl:=ex) (i:=0) (m:=0) hp (by simp) (by simp) (by simpa using h)
 rwa [Nat.zero_add] at this
noncomputable def ZkC:List (List Int × List V):=[([37,121],[.int 1]),([37,45,45,45,45,45,45,100],[.int 1]),([37,49,50,51,100],[.int 1]),([37,100],[]),([37,32,45,53,46,50,100],[.bytes [122,122]])]
section
variable {ks:List Int} {vs:List V} {w i m:Nat}
theorem Zqs:Zap [122,122] w = .none:=by
 unfold Zap
 rw [if_pos (.inl (by decide))]
theorem Zrj (h:ks.drop i = [37,121]):FmtX ks vs w i m 0:=by
 obtain ⟨h1,h2,h3⟩:=Zk h
 have r:=Zdz (ks:=ks) (fl:=[]) (l:=[]) (i:=i + 1) (n:=0) (P:=none) (a:=121) h3 (by simp) (by simp) (by decide) (by decide) (by unfold Ltr;decide)
 exact FmtX.y h1 h2 (ZcW h3 (by decide)) r (by simp [pV])
theorem Zl6 (h:ks.drop i = [37,45,45,45,45,45,45,100]):FmtX ks vs w i m 0:=by
 obtain ⟨h1,h2,h3⟩:=Zk h
 have hj:Zz Zam ks (i + 1) = i + 1 + 6:=by unfold Zz;rw [h3];rfl
 have r:Zt ks (i + 1) = .bad (i + 1 + 6) Zjd:=by
  unfold Zt
  rw [hj]
  dsimp only
  rw [Nat.add_sub_cancel_left,h3,if_pos (by decide)]
 exact FmtX.bad h1 h2 (ZcW h3 (by decide)) r
theorem ZnY (h:ks.drop i = [37,49,50,51,100]):FmtX ks vs w i m 0:=by
 obtain ⟨h1,h2,h3⟩:=Zk h
 have hj:Zz Zam ks (i + 1) = i + 1:=by unfold Zz;rw [h3];rfl
 have hn:Zc5 ks (i + 1) = (12,i + 1 + 1 + 1):=by
  unfold Zc5
  rw [ZbD h3 (by decide),ZbD (Zk h3).2.2 (by decide)]
  rfl
 obtain ⟨h4,h5,h6⟩:=Zk (Zk (Zk h3).2.2).2.2
 have hp:ZbH ks (i + 1 + 1 + 1) = (.none,i + 1 + 1 + 1):=by
  unfold ZbH
  rw [h5,if_neg (by simp)]
 have r:Zt ks (i + 1) = .bad (i + 1 + 1 + 1) ZkW:=by
  unfold Zt
  rw [hj]
  dsimp only
  rw [Nat.sub_self,List.take_zero,if_neg (by decide),hn]
  dsimp only
  rw [hp]
  unfold ZbP
  dsimp only
  rw [h5,decide_eq_true h4,if_pos (by decide)]
 exact FmtX.bad h1 h2 (ZcW h3 (by decide)) r
theorem ZnZ (h:ks.drop i = [37,100]) (hv:vs.length ≤ m):FmtX ks vs w i m 0:=by
 obtain ⟨h1,h2,h3⟩:=Zk h
 have r:=Zdz (ks:=ks) (fl:=[]) (l:=[]) (i:=i + 1) (n:=0) (P:=none) (a:=100) h3 (by simp) (by simp) (by decide) (by decide) (by unfold Ltr;decide)
 have e:vs.getD m .none = .none:=by rw [List.getD_eq_getElem?_getD,List.getElem?_eq_none hv];rfl
 exact FmtX.none h1 h2 (ZcW h3 (by decide)) r (by simp [pV]) (by rw [e];trivial) (by rw [e];rfl)
theorem Zqt {vl:List V} (h:ks.drop i = [37,32,45,53,46,50,100]) (hv:vs.drop m = .bytes [122,122] :: vl):FmtX ks vs w i m 0:=by
 obtain ⟨h1,h2,h3⟩:=Zk h
 have r:=Zdz (ks:=ks) (fl:=[32,45]) (l:=[]) (i:=i + 1) (n:=5) (P:=some 2) (a:=100) h3 (by decide) (by simp) (by decide) (by decide) (by unfold Ltr;decide)
 obtain ⟨e,_⟩:=Zfn hv
 refine FmtX.none h1 h2 (ZcW h3 (by decide)) r (by simp [pV]) ?_ ?_
 ·rw [e]
  refine ⟨?_,by decide,?_⟩
  ·intro x hx
   simp only [List.mem_cons,List.not_mem_nil,or_false,or_self] at hx
   subst hx;decide
  ·unfold Zbk
   rintro ⟨q,_⟩
   simp only [List.length_cons,List.length_nil] at q
   omega
 ·rw [e];exact Zqs (w:=w)
theorem Zo9 {T:List Int} {vals ex:List V} {wr:List Int} {k:Nat} (h:ZkC[k]? = some (wr,ex)):FmtX (T ++ wr) (vals ++ ex) w T.length vals.length 0:=by
 have hd:(T ++ wr).drop T.length = wr:=List.drop_left
 have hv:(vals ++ ex).drop vals.length = ex:=List.drop_left
 unfold ZkC at h
 match k,h with
 | 0,h => cases h;exact Zrj hd
 | 1,h => cases h;exact Zl6 hd
 | 2,h => cases h;exact ZnY hd
 | 3,h => cases h;exact ZnZ hd (by simp)
 | 4,h => cases h;exact Zqt hd hv
 | k + 5,h => cases h
end
noncomputable def Zl7 (x:V) (ks:List Int):Prop:=x = .bytes ks ∨ ∃ v,x = .int v ∧ ks = Zbn v ∧ (lsd 10 v.natAbs).length ≤ 30
theorem ZcX:∀ ks,(ZD ks).length ≤ ks.length
 | [] => Nat.le_refl _
 | x :: xs => by
  unfold ZD
  split
  ·simp
  ·simp only [List.length_cons]
   have:=ZcX xs
   omega
theorem Zk6 {α:Type} {ks:List α} {i:Nat}:ZbM ks none (some (i:Int)) = ks.take i:=by
 unfold ZbM
 simp only [Option.elim,ZeQ,List.drop_zero,Nat.sub_zero]
 rcases Nat.le_total i ks.length with h | h
 ·rw [Nat.min_eq_left h]
 ·rw [Nat.min_eq_right h,List.take_of_length_le (Nat.le_refl _),List.take_of_length_le h]
theorem OpL.more {d e:Nat} {f:List Value → Sem Value} {as:List V} {σ:List AO} {out:List Int} (h:OpL d f as σ out) (hd:d ≤ e):OpL e f as σ out:=by
 obtain ⟨g,hg,ho⟩:=h
 exact ⟨g,hg,ho.more hd⟩
section
variable {sc:Scope} {d:Nat} {ρ:List (Option V)} {σ g:List AO} {fl ks:List Int} {f:V} {P:Option Nat} {w bits:Nat} {v l:Int} {x:V}
theorem Zpa (h0:0 ≤ l) (h1:l < 256) (hn:[100,105].contains l = false):TB sc d (.cmp (.loc 3) [.In] [(.cst (.bytes [100,105]))]) (Zhs f w P l x bits) σ false σ:=TB.eqv (TB.cmp (TE.loc rfl) TE.byt (Zay h0 h1)) hn
theorem Zpb (h0:0 ≤ l) (h1:l < 256) {r:Bool} (hn:[117,111,120,88].contains l = r):TB sc d (.cmp (.loc 3) [.In] [(.cst (.bytes [117,111,120,88]))]) (Zhs f w P l x bits) σ r σ:=TB.eqv (TB.cmp (TE.loc rfl) TE.byt (Zay h0 h1)) hn
theorem ZjF {a:Int} {r:Bool} (hn:(l == a) = r):TB sc d (.cmp (.loc 3) [.Eq] [(.cst (.int a))]) (Zhs f w P l x bits) σ r σ:=TB.eqv (TB.cmp (TE.loc rfl) TE.int op_eq) hn
theorem ZiH {rest:List MS} {o:Out} {σ':List AO} (hx:Zl7 x ks) (h:TSs sc 4 rest (Zhs f w P l (.bytes ks) bits) σ o σ'):TSs sc 4 (.ife (.call 78 [(.loc 4),(.glob 85)]) [(.assign (.loc 4) (.call 70 [(.loc 4)]))] [] :: rest) (Zhs f w P l x bits) σ o σ':=by
 rcases hx with rfl | ⟨v,rfl,rfl,hL⟩
 ·exact TSs.if_go (TB.val (TE.isi (j:=11) rfl rfl (by decide +kernel) ZcB)) h
 ·refine TSs.if_do (TB.val (TE.isi (j:=11) rfl rfl (by decide +kernel) Zdm)) (TSs.set (v:=.bytes (Zbn v)) (TE.def rfl Zab (TEs.one (TE.loc rfl)) (Zem hL)) TSs.nil) h
theorem Zpc (hx:Zl7 x ks) (ho:Oct ks) (hz:ks.length ≤ 10000):OpL 5 (Fn (.ref 753)) [f,.int (w:Int),pV P,.int 113,x,.int (bits:Int)] σ (Zh ks):=by
 have hq:=ZcT (ks:=ks)
 refine Zcx (d:=4) (k:=4) (g:=[]) Zy rfl .nil ?_
 rw [List.append_nil]
 refine TSs.if_go (Zpa (by decide) (by decide) (by decide)) (TSs.if_go (Zpb (by decide) (by decide) (by decide)) (TSs.if_go (ZjF (by decide)) (ZiH hx (TSs.if_ret (ZjF (by decide)) (TSs.ret ?_)))))
 exact TE.blt (j:=7) rfl (by decide +kernel) rfl (TEs.one (TE.def rfl ZbN (TEs.one (TE.loc rfl)) ((ZgF ho (by omega)).more (by decide)))) (ZhB (by omega))
theorem Zpd (hf:IsL σ f (Za fl)) (hx:Zl7 x ks) (hz:ks.length ≤ 10000) (hw:w ≤ 30) (hP:P.getD 0 ≤ 30) (hs:P.isNone = true → ks.length ≤ 99) :
  OpL 5 (Fn (.ref 753)) [f,.int (w:Int),pV P,.int 115,x,.int (bits:Int)] σ (ZgQ fl w P ks):=by
 have hul:=ZcX ks
 obtain ⟨g1,hg1,hu⟩:=Zjy (σ:=σ) (ks:=ks) (Zdu (d:=1)) (fun acc => trivial) (by omega)
 have i1:IsL (σ ++ g1 ++ [.list (Za (ZD ks))]) (.ref (σ ++ g1).length) (Za (ZD ks)):=Zm
 have tb:TB (Zb 104 none) 4 (.bool .And [(.cmp (.loc 2) [.Is] [(.cst .none)]),(.cmp (.call 75 [(.loc 4)]) [.Gt] [(.cst (.int (99)))])]) (Zhs f w P 115 (.bytes ks) bits) σ false σ:=by
  refine TB.eqv (TB.bool (TBs.and' (TB.eqv (TB.isN (TE.loc rfl) ZgN) Zk2) fun _ => TBs.and' (TB.cmp (TE.len rfl (by omega)) TE.int ZbW) fun _ => TBs.and_nil)) ?_
  cases hn:P.isNone with
  | false => rfl
  | true =>
   have:=hs hn
   rw [decide_eq_false (by omega)];rfl
 cases P with
 | none =>
  obtain ⟨g2,hg2,hp⟩:=Zf0 (w:=(w:Int)) (hf.app.app:IsL (σ ++ g1 ++ [.list (Za (ZD ks))]) f (Za fl)) i1 (by omega) (by omega)
  refine Zcx (d:=4) (k:=4) (g:=g1 ++ [.list (Za (ZD ks))] ++ g2) Zy rfl ((hg1.app (.cons (Zo _) .nil)).app hg2) ?_
  rw [← List.append_assoc,← List.append_assoc]
  refine TSs.if_go (Zpa (by decide) (by decide) (by decide)) (TSs.if_go (Zpb (by decide) (by decide) (by decide)) (TSs.if_go (ZjF (by decide)) (ZiH hx (TSs.if_go (ZjF (by decide)) (TSs.if_go tb ?_)))))
  refine TSs.set (v:=.ref (σ ++ g1).length) (TE.def rfl ZS (TEs.one (TE.loc rfl)) (hu.more (by decide))) (TSs.ret ?_)
  exact TE.def rfl ZV (TEs.cons (TE.loc rfl) (TEs.cons (TE.loc rfl) (TEs.one (TE.ite_t (TB.eqv (TB.isN (TE.loc rfl) ZgN) rfl) (TE.loc rfl))))) (hp.more (by decide))
 | some q =>
  have e:ZbM (Za (ZD ks)) none (some ((q:Nat):Int)) = Za ((ZD ks).take q):=by rw [Zk6];unfold Za;rw [List.map_take]
  have i2:IsL (σ ++ g1 ++ [.list (Za (ZD ks))] ++ [.list (Za ((ZD ks).take q))]) (.ref (σ ++ g1 ++ [AO.list (Za (ZD ks))]).length) (Za ((ZD ks).take q)):=Zm
  obtain ⟨g2,hg2,hp⟩:=Zf0 (w:=(w:Int)) (hf.app.app.app:IsL (σ ++ g1 ++ [.list (Za (ZD ks))] ++ [.list (Za ((ZD ks).take q))]) f (Za fl)) i2 (by omega) (by rw [List.length_take];omega)
  refine Zcx (d:=4) (k:=4) (g:=g1 ++ [.list (Za (ZD ks))] ++ [.list (Za ((ZD ks).take q))] ++ g2) Zy rfl (((hg1.app (.cons (Zo _) .nil)).app (.cons (Zo _) .nil)).app hg2) ?_
  rw [← List.append_assoc,← List.append_assoc,← List.append_assoc]
  refine TSs.if_go (Zpa (by decide) (by decide) (by decide)) (TSs.if_go (Zpb (by decide) (by decide) (by decide)) (TSs.if_go (ZjF (by decide)) (ZiH hx (TSs.if_go (ZjF (by decide)) (TSs.if_go tb ?_)))))
  refine TSs.set (v:=.ref (σ ++ g1).length) (TE.def rfl ZS (TEs.one (TE.loc rfl)) (hu.more (by decide))) (TSs.ret ?_)
  have sl:=ZiR (d:=4) i1 .none (.int (i:=((q:Nat):Int))) (by rw [Zg];omega)
  rw [e] at sl
  exact TE.def rfl ZV (TEs.cons (TE.loc rfl) (TEs.cons (TE.loc rfl) (TEs.one (TE.ite_f (TB.eqv (TB.isN (TE.loc rfl) ZgN) rfl) (TE.slc (TE.loc rfl) TO.none (TO.some (TE.loc rfl)) sl))))) (hp.more (by decide))
theorem ZkD (hx:Zl7 x ks) (hz:ks.length ≤ 10000) (hs:99 < ks.length):OpL 5 (Fn (.ref 753)) [f,.int (w:Int),pV none,.int 115,x,.int (bits:Int)] σ ks:=by
 refine Zcx (d:=4) (k:=4) (g:=[]) Zy rfl .nil ?_
 rw [List.append_nil]
 have tb:TB (Zb 104 none) 4 (.bool .And [(.cmp (.loc 2) [.Is] [(.cst .none)]),(.cmp (.call 75 [(.loc 4)]) [.Gt] [(.cst (.int (99)))])]) (Zhs f w none 115 (.bytes ks) bits) σ true σ:=by
  refine TB.eqv (TB.bool (TBs.and' (TB.eqv (TB.isN (TE.loc rfl) ZgN) rfl) fun _ => TBs.and' (TB.cmp (TE.len rfl (by omega)) TE.int ZbW) fun _ => TBs.and_nil)) ?_
  rw [decide_eq_true (by omega)];rfl
 refine TSs.if_go (Zpa (by decide) (by decide) (by decide)) (TSs.if_go (Zpb (by decide) (by decide) (by decide)) (TSs.if_go (ZjF (by decide)) (ZiH hx (TSs.if_go (ZjF (by decide)) (TSs.if_ret tb (TSs.ret ?_))))))
 exact TE.blt (j:=7) rfl (by decide +kernel) rfl (TEs.one (TE.loc rfl)) (ZhB (by omega))
end
theorem Zqu {b n k:Nat} (hb:2 ≤ b) (hk:1 ≤ k) (h:n < b ^ k):(lsd b n).length ≤ k:=by
 rcases Nat.lt_or_ge k (lsd b n).length with q | q
 ·have:=ZnP hb n k hk q
  omega
 ·exact q
theorem ZdA {b n:Nat} (hb:8 ≤ b) (h:n ≤ 2 ^ 64):(lsd b n).length ≤ 30:=by
 refine Zqu (by omega) (by decide) (Nat.lt_of_lt_of_le (m:=8 ^ 30) ?_ (Nat.pow_le_pow_left hb 30))
 exact Nat.lt_of_le_of_lt h (by decide)
inductive Arg (l:Int) (w:Nat):V → V → Prop
 | txt {ks}:l = 115 ∨ l = 113 → Oct ks → ks.length ≤ 101 → Arg l w (.bytes ks) (.bytes ks)
 | int {v}:-(2 ^ (w - 1)) ≤ v → v < 2 ^ (w - 1) → Arg l w (.int v) (.int v)
 | dec {v}:-(2 ^ (w - 1)) ≤ v → v < 2 ^ (w - 1) → Arg l w (.int v) (.bytes (Zbn v))
theorem ZgU {w:Nat} (hB:Bits w):(2:Int) ^ (w - 1) ≤ 2 ^ 63 ∧ (2:Int) ^ w = 2 * 2 ^ (w - 1):=by
 rcases hB with rfl | rfl | rfl | rfl <;> decide
theorem ZgV {n:Nat} (h:n ≤ 2 ^ 64):n.log2 < 100:=by
 rcases Nat.eq_zero_or_pos n with h0 | h0
 ·subst h0;decide
 ·exact (Nat.log2_lt (by omega)).mpr (Nat.lt_of_le_of_lt h (by decide))
section
variable {sc:Scope} {σ:List AO} {fl:List Int} {f x y:V} {P:Option Nat} {n w:Nat} {l:Int}
theorem Arg.nat {v:Int} (hB:Bits w) (h1:-(2 ^ (w - 1)) ≤ v) (h2:v < 2 ^ (w - 1)):v.natAbs ≤ 2 ^ 64:=by
 obtain ⟨p1,_⟩:=ZgU hB
 have e:(2:Int) ^ 63 = 9223372036854775808:=by decide
 rw [e] at p1
 omega
theorem Arg.num (hB:Bits w) (A:Arg l w x y) (hl:l ≠ 115) (hl':l ≠ 113):∃ v,x = .int v ∧ Zcw y ∧ Zb7 y w = .int v ∧ v.natAbs ≤ 2 ^ 64 ∧ -(2 ^ (w - 1)) ≤ v ∧ v < 2 ^ (w - 1):=by
 cases A with
 | txt h => rcases h with h | h <;> contradiction
 | int h1 h2 => exact ⟨_,rfl,trivial,rfl,Arg.nat hB h1 h2,h1,h2⟩
 | dec h1 h2 => exact ⟨_,rfl,Zo4 (ZdA (by decide) (Arg.nat hB h1 h2)),ZjB hB h1 h2,Arg.nat hB h1 h2,h1,h2⟩
theorem ZgW {v:Int} (h:v.natAbs ≤ 2 ^ 64):(Zbn v).length ≤ 31:=by
 rw [Zdx,ZdO]
 have:=ZdA (b:=10) (by decide) h
 split <;> omega
theorem Arg.text (hB:Bits w) (A:Arg l w x y):∃ ks,Zl7 x ks ∧ ZeU y = ks ∧ Ziv y ∧ Oct ks ∧ ks.length ≤ 101:=by
 cases A with
 | txt h ho hz => exact ⟨_,.inl rfl,rfl,by show _ ≤ 10000;omega,ho,hz⟩
 | int h1 h2 =>
  have hn:=Arg.nat hB h1 h2
  exact ⟨_,.inr ⟨_,rfl,rfl,ZdA (by decide) hn⟩,Zjz _,by have:=ZgV hn;show _ < 800;omega,ZeY _,by have:=ZgW hn;omega⟩
 | dec h1 h2 =>
  have hn:=Arg.nat hB h1 h2
  exact ⟨_,.inr ⟨_,rfl,rfl,ZdA (by decide) hn⟩,rfl,by have:=ZgW hn;show _ ≤ 10000;omega,ZeY _,by have:=ZgW hn;omega⟩
theorem Zn0 {v a b:Int} (hab:a ≤ b) (hb:b ≤ 18446744073709551616) (h1:-a ≤ v) (h2:v < a):(v % b).toNat = (if 0 ≤ v then v else v + b).toNat ∧ (if 0 ≤ v then v else v + b).toNat ≤ 18446744073709551616:=by
 by_cases h:0 ≤ v
 ·rw [if_pos h,Int.emod_eq_of_lt h (by omega)];exact ⟨rfl,by omega⟩
 ·rw [if_neg h,← Int.add_emod_right,Int.emod_eq_of_lt (by omega) (by omega)];exact ⟨rfl,by omega⟩
theorem Zpe {v:Int} (hB:Bits w) (h1:-(2 ^ (w - 1)) ≤ v) (h2:v < 2 ^ (w - 1)):(v % 2 ^ w).toNat = ZbQ v w ∧ ZbQ v w ≤ 2 ^ 64 :=
 Zn0 (by rcases hB with rfl | rfl | rfl | rfl <;> decide) (by rcases hB with rfl | rfl | rfl | rfl <;> decide) h1 h2
theorem ZpF (hP:P.getD 0 ≤ 30):(∀ q,pV P = .int q → q ≤ 99) ∧ ZbI (pV P):=by
 cases P with
 | none => exact ⟨fun q h => by simp [pV] at h,trivial⟩
 | some q =>
  simp only [Option.getD_some] at hP
  refine ⟨fun q' h => ?_,?_⟩
  ·simp only [pV,V.int.injEq] at h;omega
  ·show (q:Int) ≤ 1000;omega
theorem Zn1 {b h N:Nat} (hL:(lsd b N).length ≤ 30) (hP:P.getD 0 ≤ 30) (hw:n ≤ 30):ZZ fl n P N b h ≤ 31:=by
 have m1:wM1 P N b ≤ 30:=by unfold wM1;split <;> omega
 have m2:wM2 P (wM1 P N b) ≤ 30:=by unfold wM2;split <;> omega
 have m3:wM3 fl b N (wM2 P (wM1 P N b)) ≤ 31:=by unfold wM3;split <;> omega
 unfold ZZ wM4;split <;> omega
theorem Zk7 {b N:Nat} {hd:List Int} {gr:Bool} (hL:(lsd b N).length ≤ 30) (hP:P.getD 0 ≤ 30) (hw:n ≤ 30) (hh:hd.length ≤ 2):(wrL fl n P N b hd gr).length ≤ 1000:=by
 unfold wrL
 rw [ZgP,List.length_append,ZcI]
 have:=Zn1 (fl:=fl) (h:=hd.length) hL hP hw
 omega
theorem ZcY:∀ {ks:List Int},Oct ks → Oct (ZD ks)
 | [],h => h
 | k :: ks,h => by
  unfold ZD
  split
  ·intro x hx;cases hx
  ·intro x hx
   rcases List.mem_cons.mp hx with rfl | hx
   ·exact h x (by simp)
   ·exact ZcY (fun y hy => h y (by simp [hy])) x hx
theorem Oct.take' {ks:List Int} (h:Oct ks) (q:Nat):Oct (ks.take q):=fun x hx => h x (List.mem_of_mem_take hx)
noncomputable abbrev Zl8:List Int:=[100,105,117,111,120,88,99,115,113]
theorem ZiI (h:l ∈ Zl8):0 ≤ l ∧ l < 256:=by
 have:∀ z ∈ Zl8,0 ≤ z ∧ z < 256:=by decide
 exact this l h
theorem Zrk (h:l = 100 ∨ l = 105):[100,105].contains l = true:=by rcases h with rfl | rfl <;> rfl
theorem Zrl (h:l = 117 ∨ l = 111 ∨ l = 120 ∨ l = 88):[117,111,120,88].contains l = true ∧ ¬ [100,105].contains l = true:=by rcases h with rfl | rfl | rfl | rfl <;> decide
theorem ZkE (hB:Bits w) (hP:P.getD 0 ≤ 30) (hl:l ∈ Zl8) (h1:l ≠ 115) (h2:l ≠ 113) (A:Arg l w x y):∃ v,x = .int v ∧ Zb7 y w = .int v ∧ v.natAbs ≤ 2 ^ 64 ∧ -(2 ^ (w - 1)) ≤ v ∧ v < 2 ^ (w - 1) ∧ ItemOk (pV P) l y w:=by
 obtain ⟨pq1,pq2⟩:=ZpF hP
 obtain ⟨v,e1,e2,e3,e4,e5,e6⟩:=A.num hB h1 h2
 refine ⟨v,e1,e3,e4,e5,e6,ZiI hl,pq1,pq2,fun _ => ⟨e2,v,e3,ZgV e4⟩,fun h => ?_,hl⟩
 rcases List.mem_cons.mp h with h | h
 ·exact absurd h h1
 ·exact absurd (List.mem_singleton.mp h) h2
theorem Zn2 (hB:Bits w) (hP:P.getD 0 ≤ 30) (hl:l ∈ Zl8) (h:l = 115 ∨ l = 113) (A:Arg l w x y):∃ ks,Zl7 x ks ∧ ZeU y = ks ∧ Oct ks ∧ ks.length ≤ 101 ∧ ItemOk (pV P) l y w:=by
 obtain ⟨pq1,pq2⟩:=ZpF hP
 obtain ⟨ks,e1,e2,e3,e4,e5⟩:=A.text hB
 have nm:¬ l ∈ [100,105,117,111,120,88,(99:Int)]:=by rcases h with rfl | rfl <;> decide
 exact ⟨ks,e1,e2,e4,e5,ZiI hl,pq1,pq2,fun hm => absurd hm nm,fun _ => ⟨e3,by rw [e2];exact e4,by rw [e2];exact Nat.le_trans e5 (by decide)⟩,hl⟩
noncomputable def PieceOk (σ:List AO) (f:V) (fl:List Int) (n:Nat) (P:Option Nat) (l:Int) (x y:V) (w:Nat):Prop :=
 OpL 5 (Fn (.ref 753)) [f,.int (n:Int),pV P,.int l,x,.int (w:Int)] σ (ZaG fl (n:Int) (pV P) l y w) ∧ ItemOk (pV P) l y w ∧ Oct (ZaG fl (n:Int) (pV P) l y w) ∧ (ZaG fl (n:Int) (pV P) l y w).length ≤ 1000
theorem PieceOk.of {b:List Int} (e:ZaG fl (n:Int) (pV P) l y w = b) (h:OpL 5 (Fn (.ref 753)) [f,.int (n:Int),pV P,.int l,x,.int (w:Int)] σ b) (h2:ItemOk (pV P) l y w) (h3:Oct b) (h4:b.length ≤ 1000):PieceOk σ f fl n P l x y w:=by
 unfold PieceOk
 rw [e]
 exact ⟨h,h2,h3,h4⟩
theorem ZjG {v:Int}:∀ z ∈ Zaq fl v,0 ≤ z ∧ z < 256:=by
 intro z hz
 unfold Zaq at hz
 split at hz
 ·rw [List.mem_singleton] at hz;subst hz;decide
 ·split at hz
  ·rw [List.mem_singleton] at hz;subst hz;decide
  ·split at hz
   ·rw [List.mem_singleton] at hz;subst hz;decide
   ·cases hz
theorem Zl9 {N:Nat} (h:0 ≤ l ∧ l < 256):∀ z ∈ Zbc fl l N,0 ≤ z ∧ z < 256:=by
 intro z hz
 unfold Zbc at hz
 split at hz
 ·rcases List.mem_cons.mp hz with rfl | hz
  ·decide
  ·rw [List.mem_singleton] at hz;subst hz;exact h
 ·cases hz
theorem Zk8 {b:List Int} {n M:Nat} (h:b.length ≤ M) (hn:n ≤ M):(Zcc fl (n:Int) b).length ≤ M:=by
 rw [ZgP]
 omega
theorem Zqv (hf:IsL σ f (Za fl)) (hB:Bits w) (hn:n ≤ 30) (hP:P.getD 0 ≤ 30) (hl:l ∈ Zl8) (A:Arg l w x y) (c1:l = 100 ∨ l = 105):PieceOk σ f fl n P l x y w:=by
 obtain ⟨v,e1,e3,e4,e5,e6,ok⟩:=ZkE hB hP hl (by rcases c1 with rfl | rfl <;> decide) (by rcases c1 with rfl | rfl <;> decide) A
 rw [e1]
 have hL:=ZdA (b:=10) (by decide) e4
 refine .of (b:=wrL fl n P v.natAbs 10 (Zaq fl v) false) ?_ ((ZlX hf c1 hL hP hn).more (by decide)) ok (ZiD ZjG (by decide) (by decide)) (Zk7 hL hP hn (Nat.le_trans ZfF (by decide)))
 unfold ZaG
 rw [if_pos (Zrk c1),e3]
 exact ZnU fl n P v
theorem ZgX:8 ≤ Zar l ∧ Zar l ≤ 16:=by unfold Zar;split <;> (try split) <;> decide
theorem Zn3 {v:Int} (hB:Bits w) (h:-(2 ^ (w - 1)) ≤ v):-(2 ^ w) ≤ v:=by
 obtain ⟨_,p2⟩:=ZgU hB
 have:(0:Int) < 2 ^ (w - 1):=Int.pow_pos (by decide)
 omega
theorem Zqw (hf:IsL σ f (Za fl)) (hB:Bits w) (hn:n ≤ 30) (hP:P.getD 0 ≤ 30) (hl:l ∈ Zl8) (A:Arg l w x y) (c2:l = 117 ∨ l = 111 ∨ l = 120 ∨ l = 88):PieceOk σ f fl n P l x y w:=by
 obtain ⟨v,e1,e3,e4,e5,e6,ok⟩:=ZkE hB hP hl (by rcases c2 with rfl | rfl | rfl | rfl <;> decide) (by rcases c2 with rfl | rfl | rfl | rfl <;> decide) A
 rw [e1]
 obtain ⟨m1,m2⟩:=Zpe hB e5 e6
 have hL:=ZdA ZgX.1 m2 (b:=Zar l)
 have hh:(Zbc fl l (ZbQ v w)).length ≤ 2:=by unfold Zbc;split <;> simp
 refine .of (b:=wrL fl n P (ZbQ v w) (Zar l) (Zbc fl l (ZbQ v w)) (l == 88)) ?_ ((ZlZ hf c2 (by rcases hB with rfl | rfl | rfl | rfl <;> decide) (Zn3 hB e5) hL hP hn).more (by decide)) ok (ZiD (Zl9 (ZiI hl)) (Nat.le_trans (by decide) ZgX.1) ZgX.2) (Zk7 hL hP hn hh)
 unfold ZaG
 rw [if_neg (Zrl c2).2,if_pos (Zrl c2).1,e3]
 show Zah fl n (pV P) l (v % 2 ^ w).toNat = _
 rw [m1]
 exact ZkA fl n P c2 _
theorem Zqx (hf:IsL σ f (Za fl)) (hB:Bits w) (hn:n ≤ 30) (hP:P.getD 0 ≤ 30) (A:Arg 99 w x y):PieceOk σ f fl n P 99 x y w:=by
 obtain ⟨v,e1,e3,e4,e5,e6,ok⟩:=ZkE hB hP (by decide) (by decide) (by decide) A
 rw [e1]
 have oo:Oct [v % 256]:=fun z hz => by rw [List.mem_singleton] at hz;subst hz;omega
 refine .of (b:=ZD (Zcc fl n [v % 256])) ?_ ((ZlY hf hn).more (by decide)) ok (ZcY (ZgO oo)) (Nat.le_trans (ZcX _) ?_)
 ·unfold ZaG
  rw [if_neg (by decide),if_neg (by decide),if_pos (by decide),e3]
  exact Zo2 fl n v
 ·exact Zk8 (Nat.le_of_ble_eq_true rfl) (Nat.le_trans hn (by decide))
theorem Zqy (hf:IsL σ f (Za fl)) (hB:Bits w) (hn:n ≤ 30) (hP:P.getD 0 ≤ 30) (A:Arg 115 w x y):PieceOk σ f fl n P 115 x y w:=by
 obtain ⟨ks,e1,e2,e3,e4,ok⟩:=Zn2 hB hP (by decide) (.inl rfl) A
 have e:ZaG fl (n:Int) (pV P) 115 y w = Zfj fl n (pV P) ks:=by
  unfold ZaG
  rw [if_neg (by decide),if_neg (by decide),if_neg (by decide),if_pos (by decide),e2]
 rw [Zo3] at e
 have e4':ks.length ≤ 10000:=Nat.le_trans e4 (by decide)
 have hul:(ZD ks).length ≤ 1000:=Nat.le_trans (ZcX ks) (Nat.le_trans e4 (by decide))
 have hn':n ≤ 1000:=Nat.le_trans hn (by decide)
 by_cases hc:(P.isNone && decide (99 < ks.length)) = true
 ·rw [if_pos hc] at e
  rw [Bool.and_eq_true,decide_eq_true_iff] at hc
  cases P with
  | some q => cases hc.1
  | none => exact .of e (ZkD e1 e4' hc.2) ok e3 (Nat.le_trans e4 (by decide))
 ·rw [if_neg hc] at e
  refine .of e (Zpd hf e1 e4' hn hP fun hN => ?_) ok (ZgO ?_) ?_
  ·rw [hN,Bool.true_and,decide_eq_true_iff] at hc;exact Nat.le_of_not_lt hc
  ·cases P with
   | none => exact ZcY e3
   | some q => exact (ZcY e3).take' q
  ·refine Zk8 ?_ hn'
   cases P with
   | none => exact hul
   | some q => exact Nat.le_trans (List.length_take_le' _ _) hul
theorem Zqz (hB:Bits w) (hP:P.getD 0 ≤ 30) (A:Arg 113 w x y):PieceOk σ f fl n P 113 x y w:=by
 obtain ⟨ks,e1,e2,e3,e4,ok⟩:=Zn2 hB hP (by decide) (.inr rfl) A
 refine .of (b:=Zh ks) ?_ (Zpc e1 e3 (Nat.le_trans e4 (by decide))) ok (Zej e3) (Nat.le_trans ZcT (by omega))
 unfold ZaG
 rw [if_neg (by decide),if_neg (by decide),if_neg (by decide),if_neg (by decide),e2]
theorem Zma (hf:IsL σ f (Za fl)) (hB:Bits w) (hn:n ≤ 30) (hP:P.getD 0 ≤ 30) (hl:l ∈ [100,105,117,111,120,88,99,115,(113:Int)]) (A:Arg l w x y):PieceOk σ f fl n P l x y w:=by
 by_cases c1:l = 100 ∨ l = 105
 ·exact Zqv hf hB hn hP hl A c1
 by_cases c2:l = 117 ∨ l = 111 ∨ l = 120 ∨ l = 88
 ·exact Zqw hf hB hn hP hl A c2
 by_cases c3:l = 99
 ·subst c3;exact Zqx hf hB hn hP A
 by_cases c4:l = 115
 ·subst c4;exact Zqy hf hB hn hP A
 have c5:l = 113:=by
  simp only [not_or] at c1 c2
  simp only [List.mem_cons,c1,c2,c3,c4,false_or,List.not_mem_nil,or_false] at hl
  exact hl
 subst c5
 exact Zqz hB hP A
end
section
variable {prog:Program} {w:World} {A:Around} {E:Value → Shared → Prop} {R:Result → Shared → Prop} {s:Shared} {env:Env}
theorem Zht {α:Type} {M:Model} {A:Around} {env:Env} {m:Sem α} {pos:Pos} {Q:α → Shared → Prop} {E:Value → Shared → Prop} {s:Shared} (h:wpAny M A m Q (notedBy M A env E) s) :
  wpAny M A (m.onRaise fun x => do noteFrame x env;standAt pos) Q E s :=
 Zaj (wpAny_mono h (fun _ _ q => q) fun _ _ hx => up (PySem.wpAny_bind (PySem.wpAny_mono hx (fun _ _ e => PySem.wpAny_standAt e) fun _ _ e => e)))
theorem Ze0 {elt target iter ifs rest scope pos it acc env}
  (h0:codeAny (model prog w) A (.compLoop (.ListComp elt (⟨target,iter,ifs,0⟩ :: rest) scope pos) 0 it acc env) R s)
  (h:wpAny (model prog w) A (pyIter it) (fun it' s' => codeAny (model prog w) A (.compLoop (.ListComp elt (⟨target,iter,ifs,0⟩ :: rest) scope pos) 0 it' acc env) R s')
   (notedBy (model prog w) A env fun x s' => R (.error x) s') s) :
  codeAny (model prog w) A (.compStart (.ListComp elt (⟨target,iter,ifs,0⟩ :: rest) scope pos) 0 it acc env) R s:=by
 refine codeAny_of_tree rfl ?_
 show wpAny _ _ ((compStart (.ListComp elt (⟨target,iter,ifs,0⟩ :: rest) scope pos) 0 it acc env).onRaise (fun x => do noteFrame x env;standAt theWindowsPlace)) _ _ s
 refine Zht ?_
 unfold compStart
 show wpAny _ _ (ask >>= _) _ _ s
 refine wpAny_bind (up (PySem.wpAny_askSetting ?_))
 dsimp only
 split
 ·exact wpAny_pure (And.intro rfl h0)
 ·refine wpAny_bind (wpAny_rule ?_)
  show wpAny _ _ (standAt iter.pos >>= _) _ _ s
  exact wpAny_bind (wpAny_standAt (wpAny_bind (wpAny_mono h (fun it' s' h' => wpAny_pure (And.intro rfl h')) fun _ _ x => x)))
theorem Zfo {elt target iter:Expr} {ifs:List Expr} {scope:Scope} {pos:Pos} {it acc:Value} {env:Env} (I:Nat → Shared → Prop)
  (turn:∀ n s,I n s → wpAny (model prog w) A (pyNext it) (fun r s₁ => match r with
   | none => R (.ok .next) s₁
   | some v => wpAny (model prog w) A (assign target env v) (fun _ s₂ =>
     wpAny (model prog w) A (forIn ifs true fun c r => if r = true then do let ok ← isTrue c env (eval c env);pure (ForInStep.yield ok) else pure (ForInStep.yield r)) (fun ok s₃ =>
      if ok = true then wpAny (model prog w) A (eval elt env) (fun x s₄ =>
       wpAny (model prog w) A (call (.builtin "list.append") [acc,x]) (fun _ s₅ => ∃ m,m < n ∧ I m s₅) (notedBy (model prog w) A env fun e s' => R (.error e) s') s₄) (notedBy (model prog w) A env fun e s' => R (.error e) s') s₃
      else ∃ m,m < n ∧ I m s₃) (notedBy (model prog w) A env fun e s' => R (.error e) s') s₂) (notedBy (model prog w) A env fun e s' => R (.error e) s') s₁) (notedBy (model prog w) A env fun e s' => R (.error e) s') s)
  (n:Nat) (h:I n s) (ht:∀ v,letOwnedTupleGo target it v = pure ():=by intro _;rfl) :
  codeAny (model prog w) A (.compLoop (.ListComp elt [⟨target,iter,ifs,0⟩] scope pos) 0 it acc env) R s:=by
 refine ZbK rfl (Around.under_of_weight rfl) rfl I (fun n s hI => ?_) n s h
 show wpAny _ A ((compTurn (.ListComp elt [⟨target,iter,ifs,0⟩] scope pos) 0 it acc env).onRaise (fun x => do noteFrame x env;theTreesLotGoes x)) _ _ s
 refine Zbr ?_
 rw [compTurn_list]
 refine wpAny_bind (wpAny_standAt (wpAny_bind (wpAny_mono (turn n s hI) (fun r s₁ h₁ => ?_) fun _ _ h' => h')))
 cases r with
 | none => exact wpAny_pure h₁
 | some v =>
  refine wpAny_bind (wpAny_of_eq (ht v) ?_)
  refine wpAny_bind (wpAny_mono h₁ (fun _ s₂ h₂ => wpAny_bind (wpAny_mono h₂ (fun ok s₃ h₃ => ?_) fun _ _ h' => h')) fun _ _ h' => h')
  cases ok with
  | false => exact wpAny_pure (.inl ⟨rfl,h₃⟩)
  | true =>
   exact wpAny_bind (wpAny_bind (wpAny_mono h₃ (fun x s₄ h₄ => wpAny_bind (wpAny_mono h₄ (fun _ s₅ h₅ => wpAny_pure (wpAny_pure (.inl ⟨rfl,h₅⟩))) fun _ _ h' => h')) fun _ _ h' => h'))
noncomputable abbrev ZT (h:Heap):Heap:=h.push { cls:=.type "list",data:=.seq #[] }
theorem ZgY {elt target iter:Expr} {ifs:List Expr} {scope:Scope} {pos:Pos} {Q:Value → Shared → Prop}
  (hfree:∀ x ∈ scope.names,x.2 ≠ .free) (hkind:scope.kind = .function) (hnames:∀ x ∈ scope.names,x.2 = .local → scope.names.lookup x.1 = some .local) (hcell:∀ x ∈ scope.names,x.2 ≠ .cell)
  (h:wpAny (model prog w) A (eval iter env) (fun x s₁ => wpAny (model prog w) A (pyIter x) (fun it s₂ =>
   ∀ h₁,h₁.Ns (ZT s₂.heap).objs.size (fun _ => none) → Heap.SameBut (ZT s₂.heap).objs.size ((ZT s₂.heap).push { cls:=.type "dict",data:=.dict #[] }) h₁ →
    codeAny (model prog w) A (.compStart (.ListComp elt [⟨target,iter,ifs,0⟩] scope pos) 0 it (.ref s₂.heap.objs.size) (compEnv scope (ZT s₂.heap).objs.size env))
     (fun r s' => ∃ m,s'.heap.Ns (ZT s₂.heap).objs.size m ∧ ∀ h',Heap.SameBut (ZT s₂.heap).objs.size s'.heap h' →
      match r with | .ok _ => Q (.ref s₂.heap.objs.size) { s' with heap:=h' } | .error x => wpAny (model prog w) A (passOn "comprehension.variables-let-go" x (compEnv scope (ZT s₂.heap).objs.size env)) Q E { s' with heap:=h' }) { s₂ with heap:=h₁ }) E s₁) E s)
  (hs:∀ x,foldedSetIterable iter env x = pure x):wpAny (model prog w) A (eval (.ListComp elt [⟨target,iter,ifs,0⟩] scope pos) env) Q E s:=by
 rw [eval_ListComp]
 show wpAny _ _ (comprehension (.ListComp elt [⟨target,iter,ifs,0⟩] scope pos) scope env _ (newList []) false (eval iter env)) _ _ _
 unfold comprehension
 rw [closureFor_none hfree]
 refine wpAny_bind (wpAny_mono h (fun x s₁ h₁ => wpAny_bind (wpAny_standAt (wpAny_bind (wpAny_of_eq (hs x) (wpAny_bind (wpAny_holding (wpAny_mono h₁ (fun it s₂ h₂ => ?_)
   fun _ _ h' => h'))))))) fun _ _ h' => h')
 dsimp only
 refine wpAny_bind (wpAny_newObj_type (n:="list") (d:=.seq ([]:List Value).toArray) (dict:=none) ?_ (by size_fits))
 refine wpAny_bind (wpAny_pure (wpAny_bind (up (wpAny_newFunctionEnv hcell (by intro y hy;cases hy) (fun h₁ hns₁ hsb₁ => ?_) hkind))))
 dsimp only at hns₁ hsb₁ ⊢
 rw [map_eq_self (l:=scope.names) (fun x hx => by
  obtain ⟨n,k⟩:=x
  have:(k == NameKind.free) = false:=by simpa using hfree _ hx
  simp [this])]
 have hc:=h₂ h₁ hns₁ hsb₁
 have hv:∀ x ∈ (scope.names.filter fun x => (x.2 == .local || x.2 == .cell) && x.1 != (".0":Str)).reverse,x.2 = .local →
   Env.kindOf (compEnv scope (ZT s₂.heap).objs.size env) x.1 = some .local:=fun x hx hl => hnames x (List.mem_filter.mp (List.mem_reverse.mp hx)).1 hl
 refine wpAny_holding (wpAny_bind (wpAny_attempt (wpAny_holding (Ze2 (codeAny_mono hc fun r s' hr => ?_)))))
 obtain ⟨m,hn,hr⟩:=hr
 cases r with
 | ok f => exact wpAny_bind (wpAny_holding (up (wpAny_comp_letGo (cenv:=compEnv scope (ZT s₂.heap).objs.size env) hkind _ s' m hv hn fun h' m' _ hs' => wpAny_pure (hr h' hs'))))
 | error x => exact wpAny_bind (wpAny_holding (up (wpAny_comp_letGo (cenv:=compEnv scope (ZT s₂.heap).objs.size env) hkind _ s' m hv hn fun h' m' _ hs' => hr h' hs')))
theorem Zer {elt target iter:Expr} {ifs:List Expr} {scope:Scope} {pos:Pos} {u:Value → Sem Unit} {Q:Unit → Shared → Prop}
  (hfree:∀ x ∈ scope.names,x.2 ≠ .free) (hkind:scope.kind = .function) (hnames:∀ x ∈ scope.names,x.2 = .local → scope.names.lookup x.1 = some .local) (hcell:∀ x ∈ scope.names,x.2 ≠ .cell)
  (h:wpAny (model prog w) A (eval iter env) (fun x s₁ => wpAny (model prog w) A (pyIter x) (fun it s₂ =>
   ∀ h₁,h₁.Ns (ZT s₂.heap).objs.size (fun _ => none) → Heap.SameBut (ZT s₂.heap).objs.size ((ZT s₂.heap).push { cls:=.type "dict",data:=.dict #[] }) h₁ →
    codeAny (model prog w) A (.compStart (.ListComp elt [⟨target,iter,ifs,0⟩] scope pos) 0 it (.ref s₂.heap.objs.size) (compEnv scope (ZT s₂.heap).objs.size env))
     (fun r s' => match r with
      | .ok _ => wpAny (model prog w) A (u (.ref s₂.heap.objs.size)) (fun _ s'' => ∃ m,s''.heap.Ns (ZT s₂.heap).objs.size m ∧ ∀ h',Heap.SameBut (ZT s₂.heap).objs.size s''.heap h' → Q () { s'' with heap:=h' }) E s'
      | .error _ => False) { s₂ with heap:=h₁ }) E s₁) E s)
  (hs:∀ x,foldedSetIterable iter env x = pure x):wpAny (model prog w) A (evalThenUse (.ListComp elt [⟨target,iter,ifs,0⟩] scope pos) env u) Q E s:=by
 show wpAny _ _ (comprehension (.ListComp elt [⟨target,iter,ifs,0⟩] scope pos) scope env _ (newList []) false (eval iter env) (some u) >>= fun _ => pure ()) _ _ _
 refine wpAny_bind ?_
 unfold comprehension
 rw [closureFor_none hfree]
 refine wpAny_bind (wpAny_mono h (fun x s₁ h₁ => wpAny_bind (wpAny_standAt (wpAny_bind (wpAny_of_eq (hs x) (wpAny_bind (wpAny_holding (wpAny_mono h₁ (fun it s₂ h₂ => ?_)
   fun _ _ h' => h'))))))) fun _ _ h' => h')
 dsimp only
 rw [if_pos (show (some u).isSome = true from rfl)]
 refine wpAny_bind (wpAny_standAt ?_)
 refine wpAny_bind (wpAny_newObj_type (n:="list") (d:=.seq ([]:List Value).toArray) (dict:=none) ?_ (by size_fits))
 refine wpAny_bind (wpAny_pure (wpAny_bind (up (wpAny_newFunctionEnv hcell (by intro y hy;cases hy) (fun h₁ hns₁ hsb₁ => ?_) hkind))))
 dsimp only at hns₁ hsb₁ ⊢
 rw [map_eq_self (l:=scope.names) (fun x hx => by
  obtain ⟨n,k⟩:=x
  have:(k == NameKind.free) = false:=by simpa using hfree _ hx
  simp [this])]
 have hc:=h₂ h₁ hns₁ hsb₁
 have hv:∀ x ∈ (scope.names.filter fun x => (x.2 == .local || x.2 == .cell) && x.1 != (".0":Str)).reverse,x.2 = .local →
   Env.kindOf (compEnv scope (ZT s₂.heap).objs.size env) x.1 = some .local:=fun x hx hl => hnames x (List.mem_filter.mp (List.mem_reverse.mp hx)).1 hl
 have hv':∀ x ∈ (scope.names.filter fun x => (x.2 == .local || x.2 == .cell) && x.1 != (".0":Str)).reverse.drop 1 ++ (scope.names.filter fun x => (x.2 == .local || x.2 == .cell) && x.1 != (".0":Str)).reverse.take 1,
   x.2 = .local → Env.kindOf (compEnv scope (ZT s₂.heap).objs.size env) x.1 = some .local:=fun x hx hl => by
  rcases List.mem_append.mp hx with h1 | h1
  ·exact hv x (List.mem_of_mem_drop h1) hl
  ·exact hv x (List.mem_of_mem_take h1) hl
 refine wpAny_holding (wpAny_bind (wpAny_attempt (wpAny_holding (Ze2 (codeAny_mono hc fun r s' hr => ?_)))))
 cases r with
 | ok f =>
  refine wpAny_bind (wpAny_rule (wpAny_bind (wpAny_holding (wpAny_mono hr (fun _ s'' hr' => ?_) fun _ _ h' => h'))))
  obtain ⟨m,hn,hr'⟩:=hr'
  exact wpAny_bind (up (wpAny_comp_letGo (cenv:=compEnv scope (ZT s₂.heap).objs.size env) hkind _ s'' m hv' hn fun h' m' _ hs' => wpAny_pure (wpAny_pure (hr' h' hs'))))
 | error x => exact hr.elim
end
section
variable {h₀:Heap} {L:Addr} {N:List Str} {ρ:List (Option V)} {ι:Ix} {P:Z2} {σ:List AO} {h:Heap}
theorem ZkF (hP:P L = none) {o:Obj}:FrzLe P (frz P L o):=fun b x e => by
 unfold frz
 rw [if_neg]
 ·exact e
 ·intro q;subst q;rw [hP] at e;cases e
theorem St.enter (S:St h₀ L N ρ ι P σ h) {oL:Obj} (hL:h.get? L = some oL) {h₁:Heap} {C:Addr} {N':List Str} {ρ':List (Option V)} {m:Str → Option Value} (hns:h₁.Ns C m) (k:∀ b o,h.get? b = some o → h₁.get? b = some o) (hC:h.get? C = none)
  (hv:∀ (i:Nat) (n:Str) (v:V),N'[i]? = some n → ρ'[i]? = some (some v) → ∃ v',m n = some v' ∧ VR ι P v v'):St h₀ C N' ρ' ι (frz P L oL) σ h₁:=by
 have le:=ZkF (o:=oL) S.sep.PL
 have dead:∀ b o,h.get? b = some o → b ≠ C:=fun b o e q => by rw [q,hC] at e;cases e
 refine ⟨fun b o e => le _ _ (S.base b o e),fun b o e => ?_,⟨m,hns,fun i n v e1 e2 => ?_⟩,S.len,fun j ao a d e1 e2 => (S.objs j ao a d e1 e2).same (List.prefix_refl _) le (fun _ e => k _ _ e) (fun _ e => k _ _ e),?_,fun j x y e => ?_,S.sep.apart⟩
 ·unfold frz at e
  split at e
  ·rename_i q;subst q;cases e;exact k _ _ hL
  ·exact k _ _ (S.keep _ _ e)
 ·obtain ⟨v',e3,e4⟩:=hv i n v e1 e2
  exact ⟨v',e3,e4.mono (List.prefix_refl _) le⟩
 ·show (if C = L then _ else P C) = _
  rw [if_neg (dead _ _ hL).symm]
  cases q:P C with
  | none => rfl
  | some o => have:=S.keep _ _ q;rw [hC] at this;cases this
 ·obtain ⟨q1,q2,q3,q4⟩:=S.sep.off j x y e
  obtain ⟨ao,_,r⟩:=S.objOf e
  obtain ⟨⟨o1,l1⟩,o2,l2⟩:=r.live
  refine ⟨?_,?_,dead _ _ l1,dead _ _ l2⟩
  ·show (if x = L then _ else P x) = _
   rw [if_neg q3];exact q1
  ·show (if y = L then _ else P y) = _
   rw [if_neg q4];exact q2
theorem St.leave (S:St h₀ L N ρ ι P σ h) {oL:Obj} (hL:h.get? L = some oL) {C:Addr} {N':List Str} {ρ':List (Option V)} {ι':Ix} {P':Z2} {σ':List AO} {h' h'':Heap} (T:St h₀ C N' ρ' ι' P' σ' h') (hP:FrzLe (frz P L oL) P') (hi:ι <+: ι')
  (k:∀ b o,b ≠ C → h'.get? b = some o → h''.get? b = some o):St h₀ L N ρ ι' (Mine.thaw P' L) σ' h'' ∧ FrzLe P (Mine.thaw P' L):=by
 obtain ⟨m,⟨o,es,ep,hL',hLd,hLr⟩,hval⟩:=S.ns
 rw [hL] at hL';cases hL'
 have eL:P' L = some oL:=hP _ _ (if_pos rfl)
 have hoL:ZN oL:=by unfold ZN;rw [hLd];trivial
 have hL0:h₀.get? L = none:=Zax S.base S.sep.PL
 have T2:=T.thaw eL hoL hL0
 have le2:FrzLe P (Mine.thaw P' L):=ZeC ((ZkF S.sep.PL).trans hP) S.sep.PL
 have hLC:L ≠ C:=fun q => by rw [q,T.sep.PL] at eL;cases eL
 have hnC:∀ b o,Mine.thaw P' L b = some o → b ≠ C:=fun b o e q => by rw [q,T2.sep.PL] at e;cases e
 refine ⟨⟨T2.base,fun b o e => k b o (hnC b o e) (T2.keep b o e),⟨m,⟨oL,es,ep,k _ _ hLC (T.keep _ _ eL),hLd,hLr⟩,fun i n v e1 e2 => ?_⟩,T2.len,fun j ao a d e1 e2 => ?_,if_pos rfl,fun j x y e => ?_,T2.sep.apart⟩,le2⟩
 ·obtain ⟨x,hx,hr⟩:=hval i n v e1 e2
  exact ⟨x,hx,hr.mono hi le2⟩
 ·obtain ⟨_,_,q3,q4⟩:=T2.sep.off j a d e2
  exact (T2.objs j ao a d e1 e2).same (List.prefix_refl _) (.refl _) (fun o e => k _ _ q3 e) fun o e => k _ _ q4 e
 ·obtain ⟨q1,q2,_⟩:=T2.sep.off j x y e
  obtain ⟨z1,z2,_⟩:=T.sep.off j x y e
  exact ⟨q1,q2,(by first | exact Zr z1 eL | exact (Zr eL z1).symm | exact fun q => by rw [q,eL] at z1;cases z1),(by first | exact Zr z2 eL | exact (Zr eL z2).symm | exact fun q => by rw [q,eL] at z2;cases z2)⟩
end
noncomputable def TIf (sc:Scope) (d:Nat) (ifs:List ME) (ρ:List (Option V)) (σ:List AO) (b:Bool):Prop:=match ifs with
 | [] => b = true
 | [m] => TB sc d m ρ σ b σ
 | _ => False
theorem Zcr {sc:Scope} {n:Str} (h:Zd6 sc n = true):Zs sc = [Str.ofString ".0",n] ∧ sc.kind = .function ∧ n ≠ Str.ofString ".0" ∧ (∀ x ∈ sc.names,x.2 ≠ .free) ∧ (∀ x ∈ sc.names,x.2 ≠ .cell) ∧ (∀ x ∈ sc.names,x.2 = .local → sc.names.lookup x.1 = some .local):=by
 unfold Zd6 at h
 simp only [Bool.and_eq_true,beq_iff_eq,bne_iff_ne,List.all_eq_true,Bool.or_eq_true] at h
 obtain ⟨⟨⟨h1,h2⟩,h3⟩,h4⟩:=h
 refine ⟨h1,h2,h3,fun x hx q => ?_,fun x hx q => ?_,fun x hx q => ?_⟩
 ·rcases h4 x hx with e | e
  ·rw [q] at e;cases e.1
  ·rw [q] at e;cases e
 ·rcases h4 x hx with e | e
  ·rw [q] at e;cases e.1
  ·rw [q] at e;cases e
 ·rcases h4 x hx with e | e
  ·exact e.2
  ·rw [q] at e;cases e
theorem ZkG {sc:Scope} {n:Str} (h:Zd6 sc n = true):sc.names.lookup n = some .local:=by
 obtain ⟨h1,_,_,_,_,h6⟩:=Zcr h
 have:n ∈ Zs sc:=by rw [h1];simp
 unfold Zs at this
 rw [List.mem_map] at this
 obtain ⟨x,hx,rfl⟩:=this
 rw [List.mem_filter] at hx
 exact h6 x hx.1 (by simpa using hx.2)
section
variable {sc:Scope} {d:Nat} {ρ:List (Option V)} {σ σ₁:List AO}
theorem Zn4 {w:World} {h₀:Heap} {A:Around} {env:Env} {ι:Ix} {P:Z2} {s:Shared} {E:Value → Shared → Prop} {ifs:List ME} {pes:List Expr} {b:Bool} {Q:Bool → Shared → Prop} (F:Fx w h₀ A env sc d) (C:CEs sc pes ifs) (S:St h₀ env.locals (Zs sc) ρ ι P σ s.heap)
  (h:TIf sc d ifs ρ σ b) (k:Aft (cx w h₀ A env sc ρ E) ι P σ s (fun _ _ s' => Q b s')) :
  wpAny (model pw w) A (forIn pes true fun c r => if r = true then do let ok ← isTrue c env (eval c env);pure (ForInStep.yield ok) else pure (ForInStep.yield r)) Q E s:=by
 cases ifs with
 | nil =>
  cases C
  cases h
  exact wpAny_pure (Ze (c:=cx w h₀ A env sc ρ E) S k s.toks)
 | cons _ l =>
  obtain ⟨_,_,rfl,c1,c2⟩:=C
  cases l with
  | nil =>
   cases c2
   simp only [List.forIn_cons,List.forIn_nil,if_true]
   refine wpAny_bind (wpAny_bind (h w h₀ A env _ ι P s E F c1 S _ ?_))
   intro ι₁ P₁ g₁ t₁ i₁ p₁ S₁
   exact wpAny_pure (wpAny_pure (k ι₁ P₁ g₁ t₁ i₁ p₁ S₁))
  | cons => exact h.elim
end
section
variable {sc:Scope} {d:Nat} {ρ:List (Option V)} {σ σ₁:List AO}
structure Elts (d:Nat) (σ₁:List AO) (K:List AO → Prop) (elt:ME) (ifs:List ME) (vs:List V) (p:V → Bool) (f:V → V):Prop where
 keep:∀ acc,K (σ₁ ++ [.list acc])
 len:vs.length ≤ 1000
 test:∀ sc' v acc,v ∈ vs → TIf sc' d ifs [none,some v] (σ₁ ++ [.list acc]) (p v)
 elt:∀ sc' v acc,v ∈ vs → p v = true → TE sc' d elt [none,some v] (σ₁ ++ [.list acc]) (f v) (σ₁ ++ [.list acc])
inductive CompInv (h₀:Heap) (Cc D:Addr) (sc':Scope) (σ₁:List AO) (s:Shared) (ι₁:Ix) (P₁:Z2) (I:Addr) (src:Ix → Z2 → List AO → Prop) (J:Nat → Obj → Prop) (vs:List V) (p:V → Bool) (f:V → V) (nn:Nat) (s':Shared):Prop
 | mk (i:Nat) (vs' acc:List V) (y:Option V) (ι':Ix) (P':Z2) (h':Heap) (tk:Nat) (o':Obj) (hs:s' = { s with heap:=h',toks:=tk }) (hi:(ι₁ ++ [(D,D)]) <+: ι') (hp:FrzLe P₁ P') (S:St h₀ Cc (Zs sc') [none,y] ι' P' (σ₁ ++ [.list acc]) h') (hP:P' I = none)
  (hx:∀ (k:Nat) (x y:Addr),ι'[k]? = some (x,y) → I ≠ x ∧ I ≠ y) (hI:h'.get? I = some o') (hJ:J i o') (hr:src ι' P' (σ₁ ++ [.list acc])) (hd:vs.drop i = vs') (hn:nn = vs'.length) (ha:acc.length ≤ i) (hc:acc ++ (vs'.filter p).map f = (vs.filter p).map f)
set_option maxHeartbeats 1000000 in
theorem ZhW {w:World} {h₀:Heap} {A:Around} {env:Env} {ι₁:Ix} {P₁:Z2} {s:Shared} {E:Value → Shared → Prop} {elt:ME} {ifs:List ME} {u:V} {vs:List V} {K:List AO → Prop} {p:V → Bool} {f:V → V} {e it':Expr} {ifs':List Expr} {sc':Scope} {n:Str} {tp p':Pos} {x:Value} {g₁:Heap} {t₁:Nat}
  {RR:Shared → Result → Shared → Prop} (F:Fx w h₀ A env sc d) (c2:CE sc' e elt) (c3:CEs sc' ifs' ifs) (c4:Zd6 sc' n = true) (h2:ZeD d u σ₁ K vs) (H:Elts d σ₁ K elt ifs vs p f) (S₁:St h₀ env.locals (Zs sc) ρ ι₁ P₁ σ₁ g₁) (hx:VR ι₁ P₁ u x)
  (kR:∀ s₂ ι' P' h' tk m,ι₁ <+: ι' → FrzLe P₁ P' → St h₀ env.locals (Zs sc) ρ ι' P' (σ₁ ++ [.list ((vs.filter p).map f)]) h' → ι'[σ₁.length]? = some (s₂.heap.objs.size,s₂.heap.objs.size) → h'.Ns (ZT s₂.heap).objs.size m → P' (ZT s₂.heap).objs.size = none → (ZT s₂.heap).objs.size ≠ env.locals →
   (∀ (k:Nat) (x y:Addr),ι'[k]? = some (x,y) → (ZT s₂.heap).objs.size ≠ x ∧ (ZT s₂.heap).objs.size ≠ y) → h₀.get? (ZT s₂.heap).objs.size = none → RR s₂ (.ok .next) { s with heap:=h',toks:=tk }) :
  wpAny (model pw w) A (pyIter x) (fun it s₂ => ∀ h₁,h₁.Ns (ZT s₂.heap).objs.size (fun _ => Option.none) → Heap.SameBut (ZT s₂.heap).objs.size ((ZT s₂.heap).push { cls:=.type "dict",data:=.dict #[] }) h₁ →
   codeAny (model pw w) A (.compStart (.ListComp e [⟨.Name n tp,it',ifs',0⟩] sc' p') 0 it (.ref s₂.heap.objs.size) (compEnv sc' (ZT s₂.heap).objs.size env)) (RR s₂) { s₂ with heap:=h₁ }) E { s with heap:=g₁,toks:=t₁ }:=by
  obtain ⟨hl,hkind,hn0,hfree,hcell,hnames⟩:=Zcr c4
  have hloc:=ZkG c4
  refine h2 (cx w h₀ A env sc ρ E) ι₁ P₁ { s with heap:=g₁,toks:=t₁ } x _ F.toRm S₁ hx ?_
  intro g₂ t₂ src J o₀ k₂ hI hJ Y hsrc hKK
  intro h₁ hns hsb
  have hI0:g₁.get? g₁.objs.size = none:=Heap.get?_none_of_le (Nat.le_refl _)
  have hP0:P₁ g₁.objs.size = none:=S₁.freshP
  have hLne:g₁.objs.size ≠ env.locals:=(Nat.ne_of_lt S₁.ltL).symm
  have hx0:∀ (k:Nat) (x y:Addr),ι₁[k]? = some (x,y) → g₁.objs.size ≠ x ∧ g₁.objs.size ≠ y:=fun k x y e => ⟨(Nat.ne_of_lt (S₁.freshI e).1).symm,(Nat.ne_of_lt (S₁.freshI e).2).symm⟩
  have hI2:=Heap.lt_size hI
  have S₂:St h₀ env.locals (Zs sc) ρ ι₁ P₁ σ₁ g₂:=S₁.ext k₂
  have S₃:St h₀ env.locals (Zs sc) ρ (ι₁ ++ [(g₂.objs.size,g₂.objs.size)]) P₁ (σ₁ ++ [.list []]) (ZT g₂):=S₂.alloc ⟨rfl,_,0,Heap.get?_push_size _ rfl,.nil⟩
  have pr:ι₁ <+: ι₁ ++ [(g₂.objs.size,g₂.objs.size)]:=List.prefix_append _ _
  have hD:(ι₁ ++ [(g₂.objs.size,g₂.objs.size)])[σ₁.length]? = some (g₂.objs.size,g₂.objs.size):=by
   have:ι₁.length = σ₁.length:=S₁.len
   rw [← this];simp
  obtain ⟨oL,hL⟩:=S₃.liveL
  have kC:∀ b o,(ZT g₂).get? b = some o → h₁.get? b = some o:=fun b o e => (hsb.2 b (Nat.ne_of_lt (Heap.lt_size e))).trans (Heap.get?_push_of_some _ e)
  have hC0:(ZT g₂).get? (ZT g₂).objs.size = none:=Heap.get?_none_of_le (Nat.le_refl _)
  have S₄:St h₀ (ZT g₂).objs.size (Zs sc') [none,none] (ι₁ ++ [(g₂.objs.size,g₂.objs.size)]) (frz P₁ env.locals oL) (σ₁ ++ [.list []]) h₁:=S₃.enter hL hns kC hC0 fun i n v e1 e2 => by
   cases i with
   | zero => cases e2
   | succ i => cases i with
    | zero => cases e2
    | succ i => cases e2
  have leF:FrzLe P₁ (frz P₁ env.locals oL):=ZkF S₃.sep.PL
  have nd:(Zs sc').Nodup:=by
   rw [hl];simp [Ne.symm hn0]
  have FX:Fx w h₀ A (compEnv sc' (ZT g₂).objs.size env) sc' d:=⟨F.toRm,rfl,hkind,nd,F.globals,F.builtins⟩
  have hIlt:g₁.objs.size < (ZT g₂).objs.size:=by
   show g₁.objs.size < (g₂.push _).objs.size
   rw [Heap.size_push]
   exact Nat.lt_succ_of_lt hI2
  have hIC:g₁.objs.size ≠ (ZT g₂).objs.size:=Nat.ne_of_lt hIlt
  have hI1:h₁.get? g₁.objs.size = some o₀:=kC _ _ (Heap.get?_push_of_some _ hI)
  have hPI:frz P₁ env.locals oL g₁.objs.size = none:=by
   show (if _ = _ then _ else _) = _
   rw [if_neg hLne];exact hP0
  have hxI:∀ (k:Nat) (x y:Addr),(ι₁ ++ [(g₂.objs.size,g₂.objs.size)])[k]? = some (x,y) → g₁.objs.size ≠ x ∧ g₁.objs.size ≠ y:=fun k x y e => by
   rw [List.getElem?_append] at e
   split at e
   ·exact hx0 k x y e
   ·have:(x,y) = (g₂.objs.size,g₂.objs.size):=by
     have:=List.mem_of_getElem? e
     simpa using this
    cases this
    exact ⟨Nat.ne_of_lt hI2,Nat.ne_of_lt hI2⟩
  have hI00:h₀.get? g₁.objs.size = none:=Zax S₁.keep0 hI0
  have hC00:h₀.get? (ZT g₂).objs.size = none:=Zax S₃.keep0 hC0
  have kR':=kR { s with heap:=g₂,toks:=t₂ }
  show codeAny _ _ (.compStart _ 0 (.ref g₁.objs.size) (.ref g₂.objs.size) _) (RR { s with heap:=g₂,toks:=t₂ }) _
  change ∀ ι' P' h' tk m,ι₁ <+: ι' → FrzLe P₁ P' → St h₀ env.locals (Zs sc) ρ ι' P' (σ₁ ++ [.list ((vs.filter p).map f)]) h' → ι'[σ₁.length]? = some (g₂.objs.size,g₂.objs.size) → h'.Ns (ZT g₂).objs.size m → P' (ZT g₂).objs.size = none → (ZT g₂).objs.size ≠ env.locals →
   (∀ (k:Nat) (x y:Addr),ι'[k]? = some (x,y) → (ZT g₂).objs.size ≠ x ∧ (ZT g₂).objs.size ≠ y) → h₀.get? (ZT g₂).objs.size = none → RR { s with heap:=g₂,toks:=t₂ } (.ok .next) { s with heap:=h',toks:=tk } at kR'
  generalize RR { s with heap:=g₂,toks:=t₂ } = R2 at *
  have hsrc':src (ι₁ ++ [(g₂.objs.size,g₂.objs.size)]) (frz P₁ env.locals oL) (σ₁ ++ [.list []]):=hKK _ _ _ pr leF (H.keep [])
  generalize (ZT g₂).objs.size = Cc at *
  generalize g₂.objs.size = D at *
  generalize g₁.objs.size = I at *
  have loop:codeAny (model pw w) A (.compLoop (.ListComp e [⟨.Name n tp,it',ifs',0⟩] sc' p') 0 (.ref I) (.ref D) (compEnv sc' Cc env)) R2 { s with heap:=h₁,toks:=t₂ }:=by
   refine Zfo (CompInv h₀ Cc D sc' σ₁ s ι₁ (frz P₁ env.locals oL) I src J vs p f) ?_ vs.length
    ⟨0,vs,[],none,_,_,h₁,t₂,o₀,rfl,List.prefix_refl _,.refl _,S₄,hPI,hxI,hI1,hJ,hsrc',rfl,rfl,Nat.le_refl _,rfl⟩ ?_
   ·rintro nn s' ⟨i,vs',acc,y,ι',P',h',tk,o',rfl,i',p',S',hPI',hxI',hI',hJ',hs',hd,rfl,hal,hacc⟩
    cases vs' with
    | nil =>
     have hn:vs[i]? = none:=by
      rw [List.drop_eq_nil_iff] at hd
      exact List.getElem?_eq_none hd
     refine Y.done (s:={ s with heap:=h',toks:=tk }) hs' S' hI' hJ' hn ?_
     intro h'' tk'' k''
     have S'':=S'.ext' k'' hPI' hIC hxI'
     obtain ⟨m,hm,_⟩:=S''.ns
     obtain ⟨SL,leL⟩:=S₃.leave hL S'' p' i' (h'':=h'') fun b o _ eb => eb
     rw [show acc = (vs.filter p).map f by simpa using hacc] at SL
     have eL:P' env.locals = some oL:=p' _ _ (if_pos rfl)
     refine kR' ι' _ h'' tk'' m (pr.trans i') leL SL (ZbL i' hD) hm ?_ ?_ (fun k x y ee => ?_) hC00
     ·show (if Cc = env.locals then none else P' Cc) = none
      split
      ·rfl
      ·exact S''.sep.PL
     ·intro q
      have:=S''.sep.PL
      rw [q,eL] at this;cases this
     ·obtain ⟨_,_,z3,z4⟩:=S''.sep.off k x y ee
      exact ⟨z3.symm,z4.symm⟩
    | cons v vs'' =>
     have hn:vs[i]? = some v:=by
      have:(vs.drop i)[0]? = some v:=by rw [hd];rfl
      rwa [List.getElem?_drop,Nat.add_zero] at this
     have hd':vs.drop (i + 1) = vs'':=by
      have:(vs.drop i).drop 1 = vs'':=by rw [hd];rfl
      rwa [List.drop_drop] at this
     have hmem:v ∈ vs:=List.mem_of_getElem? hn
     have hilt:i < vs.length:=by
      exact (List.getElem?_eq_some_iff.mp hn).1
     refine Y.item (s:={ s with heap:=h',toks:=tk }) hs' S' hI' hJ' hn ?_
     intro xv h'' tk'' o'' hxv hI'' hJ'' k''
     have S'':=S'.ext' k'' hPI' hIC hxI'
     obtain ⟨S5,le5⟩:=S''.freezeAt hI'' hPI' hIC hxI'
     have fz:frz P' I o'' I = some o'':=if_pos rfl
     have back:∀ {ι₄:Ix} {P₄:Z2} {ρ₄ σ₄ g₄},FrzLe (frz P' I o'') P₄ → St h₀ Cc (Zs sc') ρ₄ ι₄ P₄ σ₄ g₄ →
       FrzLe P' (thaw P₄ I) ∧ St h₀ Cc (Zs sc') ρ₄ ι₄ (thaw P₄ I) σ₄ g₄ ∧ thaw P₄ I I = none ∧ (∀ (k:Nat) (x y:Addr),ι₄[k]? = some (x,y) → I ≠ x ∧ I ≠ y) ∧ g₄.get? I = some o'':=fun {ι₄ P₄ ρ₄ σ₄ g₄} j2 j3 => by
      have e4:P₄ I = some o'':=j2 _ _ fz
      refine ⟨ZeC (le5.trans j2) hPI',j3.thaw e4 (Y.plain _ _ hJ'') hI00,if_pos rfl,fun k x y e => ?_,j3.keep _ _ e4⟩
      obtain ⟨z1,z2,_⟩:=j3.sep.off k x y e
      exact ⟨(by first | exact Zr e4 z1 | exact (Zr z1 e4).symm | exact fun q => by rw [q,z1] at e4;cases e4),(by first | exact Zr e4 z2 | exact (Zr z2 e4).symm | exact fun q => by rw [q,z2] at e4;cases e4)⟩
     refine TA.loc (i:=1) (v:=v) w h₀ A (compEnv sc' Cc env) _ ι' _ { s with heap:=h'',toks:=tk'' } _ xv FX ⟨_,_,rfl,(by rw [hl];rfl),hloc⟩ S5 (hxv.mono (List.prefix_refl _) le5) _ ?_
     intro ι₆ P₆ g₆ t₆ i₆ p₆ S₆
     refine Zn4 (s:={ s with heap:=g₆,toks:=t₆ }) FX c3 S₆ (H.test sc' v acc hmem) ?_
     intro ι₇ P₇ g₇ t₇ i₇ p₇ S₇
     cases hp:p v with
     | false =>
      rw [if_neg (by decide)]
      obtain ⟨z1,z2,z3,z4,z5⟩:=back (p₆.trans p₇) S₇
      refine ⟨vs''.length,Nat.lt_succ_self _,i + 1,vs'',acc,_,ι₇,_,g₇,t₇,o'',rfl,i'.trans (i₆.trans i₇),p'.trans z1,z2,z3,z4,z5,hJ'',?_,hd',rfl,by omega,?_⟩
      ·exact hKK _ _ _ (pr.trans (i'.trans (i₆.trans i₇))) (leF.trans (p'.trans z1)) (H.keep acc)
      ·rw [← hacc,List.filter_cons,hp];rfl
     | true =>
      rw [if_pos rfl]
      refine H.elt sc' v acc hmem hp w h₀ A (compEnv sc' Cc env) _ ι₇ P₇ { s with heap:=g₇,toks:=t₇ } _ FX c2 S₇ _ ?_
      intro ι₈ P₈ g₈ t₈ i₈ p₈ S₈ x₈ hx₈
      have at0:(σ₁ ++ [AO.list acc])[σ₁.length]? = some (.list acc):=by simp
      have hD8:ι₈[σ₁.length]? = some (D,D):=ZbL (i'.trans (i₆.trans (i₇.trans i₈))) hD
      have hz:=H.len
      refine ZdI (d:=d) (v:=f v) at0 (by omega) (cx w h₀ A (compEnv sc' Cc env) sc' [none,some v] _) ι₈ P₈ { s with heap:=g₈,toks:=t₈ } [.ref D,x₈] FX.toRm S₈ (.cons (.ref hD8) (.cons hx₈ .nil)) _ ?_
      intro ι₉ P₉ g₉ t₉ i₉ p₉ S₉ x₉ _
      rw [show (σ₁ ++ [AO.list acc]).set σ₁.length (.list (acc ++ [f v])) = σ₁ ++ [.list (acc ++ [f v])] by simp] at S₉
      obtain ⟨z1,z2,z3,z4,z5⟩:=back (p₆.trans (p₇.trans (p₈.trans p₉))) S₉
      refine ⟨vs''.length,Nat.lt_succ_self _,i + 1,vs'',acc ++ [f v],_,ι₉,_,g₉,t₉,o'',rfl,i'.trans (i₆.trans (i₇.trans (i₈.trans i₉))),p'.trans z1,z2,z3,z4,z5,hJ'',?_,hd',rfl,by rw [List.length_append];simp;omega,?_⟩
      ·exact hKK _ _ _ (pr.trans (i'.trans (i₆.trans (i₇.trans (i₈.trans i₉))))) (leF.trans (p'.trans z1)) (H.keep _)
      ·rw [← hacc,List.filter_cons,hp];simp
   ·intro v;rfl
  exact Ze0 loop (Y.self hI1 hJ loop)
theorem Zpf {it elt:ME} {ifs:List ME} {u:V} {vs:List V} {K:List AO → Prop} {p:V → Bool} {f:V → V} (h1:TE sc d it ρ σ u σ₁) (h2:ZeD d u σ₁ K vs) (H:Elts d σ₁ K elt ifs vs p f) :
  TE sc d (.comp elt it ifs) ρ σ (.ref σ₁.length) (σ₁ ++ [.list ((vs.filter p).map f)]):=by
 intro w h₀ A env pe ι P s E F C S Q k
 obtain ⟨_,_,_,_,_,_,_,rfl,c1,c2,c3,c4⟩:=C
 obtain ⟨_,hkind,_,hfree,hcell,hnames⟩:=Zcr c4
 refine ZgY hfree hkind hnames hcell (h1 w h₀ A env _ ι P s E F c1 S _ ?_) (ZdG c1)
 intro ι₁ P₁ g₁ t₁ i₁ p₁ S₁ x hx
 refine ZhW (s:=s) F c2 c3 c4 h2 H S₁ hx fun s₂ ι' P' h' tk m i' p' S' hD hm hP hL hi h0 => ?_
 refine ⟨m,hm,fun h₃ hs₃ => ?_⟩
 exact k ι' P' h₃ tk (i₁.trans i') (p₁.trans p') (S'.ext' (fun b o hb eb => (hs₃.2 b hb).trans eb) hP hL hi) _ (.ref hD)
theorem Zk9 {i:Nat} {it elt:ME} {ifs:List ME} {u:V} {vs:List V} {K:List AO → Prop} {p:V → Bool} {f:V → V} (h1:TE sc d it ρ σ u σ₁) (h2:ZeD d u σ₁ K vs) (H:Elts d σ₁ K elt ifs vs p f) :
  TS sc d (.assign (.loc i) (.comp elt it ifs)) ρ σ (.next (ρ.set i (some (.ref σ₁.length)))) (σ₁ ++ [.list ((vs.filter p).map f)]):=by
 intro w h₀ A env pe ι P s E F C S Q k
 have TC:=Zpf h1 h2 H
 obtain ⟨_,_,_,rfl,ct,ce⟩:=C
 have ct':=ct
 have ce':=ce
 obtain ⟨_,_,rfl,n1,n2⟩:=ct
 obtain ⟨_,_,_,_,_,_,_,rfl,c1,c2,c3,c4⟩:=ce
 rename_i nm tp0 _ _ _ _ _ _ _
 rw [exec_Assign_arm]
 refine wpAny_bind (wpAny_standAt ?_)
 refine wpAny_bind (wpAny_of_eq rfl ?_)
 split
 ·refine wpAny_bind ?_
  obtain ⟨_,hkind,_,hfree,hcell,hnames⟩:=Zcr c4
  refine Zer hfree hkind hnames hcell (h1 w h₀ A env _ ι P s E F c1 S _ ?_) (ZdG c1)
  intro ι₁ P₁ g₁ t₁ i₁ p₁ S₁ x hx
  refine ZhW (s:=s) F c2 c3 c4 h2 H S₁ hx fun s₂ ι' P' h' tk m i' p' S' hD hm hP hL hi h0 => ?_
  obtain ⟨oC,es,ep,hC,hCd,hCr⟩:=hm
  obtain ⟨Sf,lef⟩:=S'.freezeAt hC hP hL hi
  have fzC:frz P' (ZT s₂.heap).objs.size oC (ZT s₂.heap).objs.size = some oC:=if_pos rfl
  show wpAny _ _ (assignAll (.ref s₂.heap.objs.size) ((assignEach [_] env).map (·.2))) _ _ _
  rw [ZH ct']
  refine TA.loc (v:=.ref σ₁.length) w h₀ A env _ ι' _ { s with heap:=h',toks:=tk } E (.ref s₂.heap.objs.size) F ct' Sf (.ref hD) _ ?_
  intro ι₄ P₄ g₄ t₄ i₄ p₄ S₄
  have e4:=p₄ _ _ fzC
  refine ⟨m,⟨oC,es,ep,S₄.keep _ _ e4,hCd,hCr⟩,fun h₅ hs₅ => ?_⟩
  have ST:=S₄.thaw e4 (by unfold ZN;rw [hCd];trivial) h0
  refine wpAny_pure (k ι₄ (thaw P₄ (ZT s₂.heap).objs.size) h₅ t₄ (i₁.trans (i'.trans i₄)) (p₁.trans (p'.trans (ZeC (lef.trans p₄) hP))) (ST.ext' (fun b o hb eb => (hs₅.2 b hb).trans eb) (if_pos rfl) hL fun kk x y ee => ?_) _ .next)
  obtain ⟨z1,z2,_⟩:=S₄.sep.off kk x y ee
  exact ⟨(by first | exact Zr e4 z1 | exact (Zr z1 e4).symm | exact fun q => by rw [q,z1] at e4;cases e4),(by first | exact Zr e4 z2 | exact (Zr z2 e4).symm | exact fun q => by rw [q,z2] at e4;cases e4)⟩
 ·refine wpAny_bind (TC w h₀ A env _ ι P s E F ce' S _ ?_)
  intro ι₁ P₁ g₁ t₁ i₁ p₁ S₁ x hx
  refine wpAny_bind (wpAny_of_eq (a:=none) (ZeB ce' ct' rfl) ?_)
  rw [ZH ct']
  refine wpAny_bind ?_
  refine TA.loc (v:=.ref σ₁.length) w h₀ A env _ ι₁ P₁ { s with heap:=g₁,toks:=t₁ } E x F ct' S₁ hx _ ?_
  intro ι₂ P₂ g₂ t₂ i₂ p₂ S₂
  exact wpAny_pure (k ι₂ P₂ g₂ t₂ (i₁.trans i₂) (p₁.trans p₂) S₂ _ .next)
end
noncomputable def Zrm:V → V
 | .int i => .int i.natAbs
 | v => v
noncomputable def Ze1 (l:List Nat):List Int:=l.map fun n:Nat => (n:Int)
section
variable {sc:Scope} {d:Nat} {ρ:List (Option V)} {σ:List AO} {ns ks:List Int} {v:V}
theorem ZhX {y:V} (h:y ∈ Za ks):∃ i,y = .int i ∧ i ∈ ks:=by
 unfold Za at h
 obtain ⟨i,hi,rfl⟩:=List.mem_map.mp h
 exact ⟨i,rfl,hi⟩
theorem Zn5 {i:Nat} (h:IsL σ v (Za ns)) (hv:ρ[0]? = some (some v)) (hz:ns.length ≤ 1000) :
  TS sc d (.assign (.loc i) (.comp (.call 74 [(.loc 1)]) (.slc (.loc 0) none (some (.cst (.int (5))))) [])) ρ σ (.next (ρ.set i (some (.ref (σ ++ [AO.list (Za (ns.take 5))]).length)))) (σ ++ [.list (Za (ns.take 5))] ++ [.list (Za (Ze1 ((ns.take 5).map Int.natAbs)))]):=by
 have e5:ZbM (Za ns) none (some ((5:Nat):Int)) = Za (ns.take 5):=by rw [Zk6];unfold Za;rw [List.map_take]
 have sl:=ZiR (d:=d) h .none (.int (i:=((5:Nat):Int))) (by rw [Zg];omega)
 rw [e5] at sl
 have t1:TE sc d (.slc (.loc 0) none (some (.cst (.int (5))))) ρ σ (.ref σ.length) (σ ++ [.list (Za (ns.take 5))]):=TE.slc (TE.loc hv) TO.none (TO.some TE.int) sl
 have il:IsL (σ ++ [.list (Za (ns.take 5))]) (.ref σ.length) (Za (ns.take 5)):=Zm
 have c:=Zk9 (i:=i) (p:=fun _ => true) (f:=Zrm) (elt:=.call 74 [(.loc 1)]) (ifs:=[]) t1 (Zeh (d:=d) il) ⟨fun acc => il.app,by rw [Zg,List.length_take];omega,fun sc' v acc hm => rfl,fun sc' v acc hm _ => by
  obtain ⟨i,rfl,_⟩:=ZhX hm
  exact TE.blt (j:=0) rfl rfl rfl (TEs.one (TE.loc rfl)) Zgb⟩
 have ef:((Za (ns.take 5)).filter fun _ => true).map Zrm = Za (Ze1 ((ns.take 5).map Int.natAbs)):=by
  rw [List.filter_eq_self.mpr (by simp)]
  unfold Za Ze1
  simp only [List.map_map]
  rfl
 rw [ef] at c
 exact c
noncomputable def ZpG:V → Bool
 | .int i => i != 37
 | _ => false
theorem Zn6 {n:Int} {i j:Nat} (hn:ρ[i]? = some (some (.int n))) (hd:2 ≤ d) :
  TS sc d (.assign (.loc j) (.comp (.loc 1) (.call 65 [(.loc i)]) [(.cmp (.loc 1) [.NotEq] [(.cst (.int (37)))])])) ρ σ (.next (ρ.set j (some (.ref σ.length)))) (σ ++ [.list (Za ((ZB n).filter (· != 37)))]):=by
 have t1:TE sc d (.call 65 [(.loc i)]) ρ σ (.bytes (ZB n)) σ:=TE.def rfl ZU (TEs.one (TE.loc hn)) (octets_ok.more hd)
 have ol:=Zav n
 have c:=Zk9 (i:=j) (p:=ZpG) (f:=id) (elt:=.loc 1) (ifs:=[(.cmp (.loc 1) [.NotEq] [(.cst (.int (37)))])]) t1 (Zdu (d:=d)) ⟨fun acc => trivial,by rw [Zg];omega,fun sc' v acc hm => by
  obtain ⟨i,rfl,_⟩:=ZhX hm
  exact TB.cmp (TE.loc rfl) TE.int Zew,fun sc' v acc hm _ => TE.loc rfl⟩
 have ef:((Za (ZB n)).filter ZpG).map id = Za ((ZB n).filter (· != 37)):=by
  rw [List.map_id]
  unfold Za
  rw [List.filter_map]
  rfl
 rw [ef] at c
 exact c
end
noncomputable def limFi:FnInfo:=match ZdQ 3 (some 0) with
 | some fi => fi
 | none => ⟨default,default,default,default,default⟩
noncomputable def limNames:List Str:=limFi.args.args.map (·.arg)
theorem Zmb (pm cdv dV self x1 x2 x3 x4 x5 x6 x7 x8 x9 x10:Value):∃ k,bindArgs (fnOf limFi.name limFi.qual limFi.args limFi.body limFi.scope dV .none .none pm none cdv .none) ⟨[self],[]⟩ = seqItems? dV >>= k ∧
  k (some #[x1,x2,x3,x4,x5,x6,x7,x8,x9,x10]) = pure (limNames.zip [self,x1,x2,x3,x4,x5,x6,x7,x8,x9,x10]):=by
 refine ⟨_,rfl,?_⟩
 kernel_rfl
theorem Zmc (pm cdv dV self b x1 x2 x3 x4 x5 x6 x7 x8 x9 x10:Value):∃ k,bindArgs (fnOf limFi.name limFi.qual limFi.args limFi.body limFi.scope dV .none .none pm none cdv .none) ⟨[self],[("width",b)]⟩ = seqItems? dV >>= k ∧
  k (some #[x1,x2,x3,x4,x5,x6,x7,x8,x9,x10]) = pure (limNames.zip [self,b,x2,x3,x4,x5,x6,x7,x8,x9,x10]):=by
 refine ⟨_,rfl,?_⟩
 kernel_rfl
theorem Zmd:(Zlv limFi,limFi.args.args.length,(cSs limFi.scope limFi.body).map (·.1)) = (true,11,some Zch):=by kernel_rfl
theorem ZqA:ZdQ 3 (some 0) = some limFi:=by kernel_rfl
noncomputable def ZdZ (b:Int):List (Nat × V):=[(0,.int b),(1,.int 250),(2,.int 60),(3,.int 200),(4,.int 40),(5,.int 200),(6,.int 2000),(7,.int 50),(8,.int 1000000000),(9,.int 1000000)]
noncomputable def ZdB (t:Nat → Tok):Nat → List Int → List Value
 | _,[] => []
 | k,j :: js => .int j (t k) :: ZdB t (k + 1) js
theorem Zrn {l:List Value} {js:List Int} (h:IntsAre l js) (k:Nat):∃ t:Nat → Tok,l = ZdB t k js:=by
 induction h generalizing k with
 | nil => exact ⟨fun _ => 0,rfl⟩
 | @cons j u vs ns _ ih =>
  obtain ⟨t,rfl⟩:=ih (k + 1)
  refine ⟨fun i => if i = k then u else t i,?_⟩
  have same:∀ (js:List Int) (m:Nat),k < m → ZdB (fun i => if i = k then u else t i) m js = ZdB t m js:=by
   intro js
   induction js with
   | nil => exact fun _ _ => rfl
   | cons j js ih => exact fun m hm => by rw [ZdB,ZdB,ih (m + 1) (Nat.lt_succ_of_lt hm),if_neg (Nat.ne_of_gt hm)]
  rw [ZdB,same ns (k + 1) (Nat.lt_succ_self k),if_pos rfl]
theorem ten {items:Array Value} {js:List Int} (h:IntsAre items.toList js):∃ t:Nat → Tok,items = ⟨ZdB t 0 js⟩:=by
 obtain ⟨l⟩:=items
 exact (Zrn h 0).imp fun _ e => congrArg Array.mk e
section
variable {sc:Scope} {d:Nat} {ρ:List (Option V)} {σ σ₁:List AO} {b:Int}
theorem ZaH {n i:Nat} {fs:List (Nat × V)} {v:V} {rest:List MS} {o:Out} {σ₂:List AO} (hn:n ∈ [0,1,2,3,4,5,6,7,8,9]) (h0:ρ[0]? = some (some (.ref σ.length))) (hi:ρ[i]? = some (some v)) (hl:fs.length ≤ 100)
  (hr:TSs sc d rest ρ (σ ++ [.inst 53 (ZC n v fs)]) o σ₂):TSs sc d (.assign (.attr 0 n) (.loc i) :: rest) ρ (σ ++ [.inst 53 fs]) o σ₂:=by
 have ta:=TA.attr (sc:=sc) (d:=d) (v:=v) (σ:=σ ++ [.inst 53 fs]) (k:=σ.length) (fs:=fs) h0 (by simp) (.head _) hn hl
 rw [show (σ ++ [AO.inst 53 fs]).set σ.length (.inst 53 (ZC n v fs)) = σ ++ [.inst 53 (ZC n v fs)] by simp] at ta
 exact TSs.cons (TS.assign (TE.loc hi) ta) hr
theorem Zn7:TSs sc d Zch [some (.ref σ.length),some (.int b),some (.int 250),some (.int 60),some (.int 200),some (.int 40),some (.int 200),some (.int 2000),some (.int 50),some (.int 1000000000),some (.int 1000000)] (σ ++ [.inst 53 []])
  (.next [some (.ref σ.length),some (.int b),some (.int 250),some (.int 60),some (.int 200),some (.int 40),some (.int 200),some (.int 2000),some (.int 50),some (.int 1000000000),some (.int 1000000)]) (σ ++ [.inst 53 (ZdZ b)]):=by
 refine ZaH (by decide) rfl rfl (by simp) ?_
 refine ZaH (by decide) rfl rfl (Nat.le_of_ble_eq_true rfl) ?_
 refine ZaH (by decide) rfl rfl (Nat.le_of_ble_eq_true rfl) ?_
 refine ZaH (by decide) rfl rfl (Nat.le_of_ble_eq_true rfl) ?_
 refine ZaH (by decide) rfl rfl (Nat.le_of_ble_eq_true rfl) ?_
 refine ZaH (by decide) rfl rfl (Nat.le_of_ble_eq_true rfl) ?_
 refine ZaH (by decide) rfl rfl (Nat.le_of_ble_eq_true rfl) ?_
 refine ZaH (by decide) rfl rfl (Nat.le_of_ble_eq_true rfl) ?_
 refine ZaH (by decide) rfl rfl (Nat.le_of_ble_eq_true rfl) ?_
 refine ZaH (by decide) rfl rfl (Nat.le_of_ble_eq_true rfl) ?_
 exact TSs.nil
theorem ZjH {c:Cx} {ι:Ix} {P:Z2} {s:Shared} {kw:List (Str × Value)} {first:Value → Value} (hkw:∀ pm cdv dV self x1 x2 x3 x4 x5 x6 x7 x8 x9 x10:Value,∃ k,bindArgs (fnOf limFi.name limFi.qual limFi.args limFi.body limFi.scope dV .none .none pm none cdv .none) ⟨[self],kw⟩ = seqItems? dV >>= k ∧
   k (some #[x1,x2,x3,x4,x5,x6,x7,x8,x9,x10]) = pure (limNames.zip [self,first x1,x2,x3,x4,x5,x6,x7,x8,x9,x10])) (hf:∀ t,∃ u,first (.int 64 t) = .int b u)
  (R:Rm c.w c.h₀ c.A (d + 1)) (S:c.St ι P σ s.heap) {Q:Value → Shared → Prop} (kQ:Aft c ι P (σ ++ [.inst 53 (ZdZ b)]) s (fun ι' P' s' => ∀ x,VR ι' P' (.ref σ.length) x → Q x s')) :
  wpAny (model pw c.w) c.A (PySem.call (.ref 53) [] kw) Q c.E s:=by
 obtain ⟨fi,pm,cdv,oc,osl,hfi,hat,hcd⟩:=R.gl.init
 rw [ZqA] at hfi
 cases hfi
 obtain ⟨items,nn,hdt,hit⟩:=R.gl.dflt
 obtain ⟨t,e⟩:=ten hit
 subst e
 have facts:=Zmd
 simp only [Prod.mk.injEq] at facts
 obtain ⟨hok,hlen,hcs⟩:=facts
 obtain ⟨⟨_,hcs⟩,_,rfl⟩:=Option.map_eq_some_iff.mp hcs
 have h1:=R.depth
 have h2:=R.units
 obtain ⟨K,X,hF⟩:=R.gl.kin
 have hK:(53,36,[0,1,2,3,4,5,6,7,8,9],[]) ∈ KT:=.head _
 have H:=Zea hF hK
 have kp:∀ b o,s.heap.get? b = some o → ((s.heap.push emptyDict).push (instObj 53 s.heap.objs.size)).get? b = some o:=fun b o e => Heap.get?_push_of_some _ (Heap.get?_push_of_some _ e)
 have kp':∀ b o,c.h₀.get? b = some o → ((s.heap.push emptyDict).push (instObj 53 s.heap.objs.size)).get? b = some o:=fun b o e => kp b o (S.keep0 b o e)
 have hPf:∀ b,s.heap.objs.size ≤ b → P b = none:=fun b hb => by
  cases e:P b with
  | none => rfl
  | some o => exact absurd (Heap.lt_size (S.keep _ _ e)) (Nat.not_lt.mpr hb)
 have hIf:∀ b,s.heap.objs.size ≤ b → ∀ (i:Nat) (y z:Addr),ι[i]? = some (y,z) → b ≠ y ∧ b ≠ z:=fun b hb i y z e =>
  ⟨fun q => (by subst q;exact absurd (S.freshI e).1 (Nat.not_lt.mpr hb)),fun q => (by subst q;exact absurd (S.freshI e).2 (Nat.not_lt.mpr hb))⟩
 have hLf:∀ b,s.heap.objs.size ≤ b → b ≠ c.L:=fun b hb q => by subst q;exact absurd S.ltL (Nat.not_lt.mpr hb)
 have hx1:((s.heap.push emptyDict).push (instObj 53 s.heap.objs.size)).get? (s.heap.objs.size + 1) = some (instObj 53 s.heap.objs.size):=by
  have:=Heap.get?_push_size (s.heap.push emptyDict) (o:=instObj 53 s.heap.objs.size) rfl
  rwa [Heap.size_push] at this
 have hd1:((s.heap.push emptyDict).push (instObj 53 s.heap.objs.size)).get? s.heap.objs.size = some emptyDict:=Heap.get?_push_of_some _ (Heap.get?_push_size _ rfl)
 have S2:=S.grow (h':=(s.heap.push emptyDict).push (instObj 53 s.heap.objs.size)) (a:=s.heap.objs.size + 1) (d:=s.heap.objs.size) (ao:=.inst 53 []) kp ⟨hPf _ (Nat.le_succ _),hLf _ (Nat.le_succ _),hIf _ (Nat.le_succ _)⟩
  ⟨hPf _ (Nat.le_refl _),hLf _ (Nat.le_refl _),hIf _ (Nat.le_refl _)⟩ ⟨hx1,[],0,hd1,.nil⟩
 refine wpAny_call (Ze6 (makes_of (X.keeps S.keep0) H.makes) (looks_findIn (X.keeps S.keep0) H.init) (fun self => bind_fn (X.keeps S.keep0) self H.initF) ?_)
 generalize hhx:s.heap.objs.size + 1 = x at S2 hx1 ⊢
 generalize hhd:s.heap.objs.size = dx at S2 hx1 hd1 kp kp' ⊢
 generalize hhh:(s.heap.push emptyDict).push (instObj 53 dx) = h' at S2 hx1 hd1 kp kp' ⊢
 have pr:ι <+: ι ++ [(x,dx)]:=List.prefix_append _ _
 have hsl:ι.length = σ.length:=S.len
 have wgt:(Code.builtin "type.__call__" ⟨[.ref 53],kw⟩).weight = 1:=by kernel_rfl
 have cun:(Code.builtin "type.__call__" ⟨[.ref 53],kw⟩).cUnits = 1:=by kernel_rfl
 have hat':=kp' _ _ hat
 have hcd':=hcd.keeps kp'
 obtain ⟨u,hu⟩:=hf (t 0)
 obtain ⟨k,hk1,hk2⟩:=hkw pm cdv (.ref 29) (.ref x) (.int 64 (t 0)) (.int 250 (t 1)) (.int 60 (t 2)) (.int 200 (t 3)) (.int 40 (t 4)) (.int 200 (t 5)) (.int 2000 (t 6)) (.int 50 (t 7)) (.int 1000000000 (t 8)) (.int 1000000 (t 9))
 rw [hu] at hk2
 have hbind:BindsTo { s with heap:=h' } (fnOf limFi.name limFi.qual limFi.args limFi.body limFi.scope (.ref 29) .none .none pm none cdv .none) ⟨[.ref x],kw⟩ _:=BindsTo.of_defaults rfl (kp' _ _ hdt) rfl hk1 hk2
 have hb:=Zn7 (σ:=σ) (b:=b) (sc:=limFi.scope) (d:=d)
 rw [← List.append_nil (σ ++ [AO.inst 53 (ZdZ b)])] at hb
 exact ZfY (k:=0) (g:=[]) (c:={ c with A:=c.A.under (.builtin "type.__call__" ⟨[.ref 53],kw⟩) }) (s:={ s with heap:=h' }) (v:=.none)
  (vs:=[.ref σ.length,.int b,.int 250,.int 60,.int 200,.int 40,.int 200,.int 2000,.int 50,.int 1000000000,.int 1000000]) hok hcs hlen rfl hb rfl (by simp) (by simp [V.lt]) (fun k' ao e => by
  rw [List.getElem?_append] at e ⊢
  split at e
  ·rename_i q
   rw [if_pos q];exact .inl e
  ·refine .inr ?_
   have:=List.mem_of_getElem? e
   rw [List.mem_singleton] at this
   subst this
   simp [AO.lt,Fs.lt,ZdZ,V.lt]) R.gl (by
  show c.A.depth + Code.weight _ + 2 * d + 5 ≤ recursionLimit
  rw [wgt];omega) (by
  show c.A.units + Code.cUnits _ + 8 * d + 73 ≤ cLine
  rw [cun];omega) R.hand S2 (.cons (.ref (d:=dx) (by rw [← hsl];simp)) (.cons .int (.cons .int (.cons .int (.cons .int (.cons .int (.cons .int (.cons .int (.cons .int (.cons .int (.cons .int .nil))))))))))) hat' hcd' hbind fun ι' P' h'' tk i' p' S3 y hy => by
  obtain rfl:=hy.none'
  exact ⟨rfl,kQ ι' P' h'' tk (pr.trans i') p' S3 _ (.ref (d:=dx) (ZbL i' (by rw [← hsl];simp)))⟩
theorem Zpg:OpV (d + 1) (Fn (.ref 53)) [] σ (.ref σ.length) (σ ++ [.inst 53 (ZdZ 64)]):=by
 intro c ι P s xs R S hx Q kQ
 obtain rfl:=hx.inv0
 exact ZjH (first:=id) (fun pm cdv dV self x1 x2 x3 x4 x5 x6 x7 x8 x9 x10 => Zmb pm cdv dV self x1 x2 x3 x4 x5 x6 x7 x8 x9 x10) (fun t => ⟨t,rfl⟩) R S kQ
end
noncomputable def ZpH:MS:=(.assign (.tup [(.loc 8),(.loc 9)]) (.tup [(.bin .Mod (.loc 7) (.cst (.int (4)))),(.bin .FloorDiv (.loc 7) (.cst (.int (4))))]))
noncomputable def ZrH:List MS:=[(.assign (.loc 10) (.comp (.loc 1) (.call 65 [(.loc 9)]) [(.cmp (.loc 1) [.NotEq] [(.cst (.int (37)))])])),(.assign (.tup [(.loc 4),(.loc 6)]) (.tup [(.bin .Add (.loc 4) (.call 76 [(.loc 10)])),(.bin .Add (.loc 6) (.loc 10))]))]
noncomputable def ZrI:List MS:=[(.assign (.tup [(.loc 4),(.loc 6)]) (.tup [(.bin .Add (.loc 4) (.cst (.bytes [37,37]))),(.bin .Add (.loc 6) (.lst [(.cst (.int (37)))]))]))]
noncomputable def ZpI:MS:=(.assign (.tup [(.loc 11),(.loc 9)]) (.tup [(.sub (.glob 61) (.bin .Mod (.loc 9) (.cst (.int (9))))),(.bin .FloorDiv (.loc 9) (.cst (.int (9))))]))
noncomputable def ZpJ:MS:=(.assign (.tup [(.loc 12),(.loc 9),(.loc 13)]) (.tup [(.bin .Mod (.loc 9) (.cst (.int (6)))),(.bin .FloorDiv (.loc 9) (.cst (.int (6)))),(.lst [])]))
noncomputable def ZpK:MS:=(.for (.loc 14) (.call 83 [(.loc 12)]) [(.assign (.tup [(.loc 13),(.loc 9)]) (.tup [(.bin .Add (.loc 13) (.lst [(.sub (.glob 60) (.bin .Mod (.loc 9) (.cst (.int (5)))))])),(.bin .FloorDiv (.loc 9) (.cst (.int (5))))]))])
noncomputable def ZpL:MS:=(.assign (.tup [(.loc 15),(.loc 9)]) (.tup [(.bin .Mod (.loc 9) (.cst (.int (13)))),(.bin .FloorDiv (.loc 9) (.cst (.int (13))))]))
noncomputable def ZpM:MS:=(.assign (.tup [(.tup [(.loc 16),(.loc 17)]),(.loc 9)]) (.tup [(.sub (.call 63 []) (.bin .Mod (.loc 9) (.cst (.int (5))))),(.bin .FloorDiv (.loc 9) (.cst (.int (5))))]))
noncomputable def ZpN:MS:=(.assign (.tup [(.loc 18),(.loc 19)]) (.tup [(.bin .Sub (.bin .Mod (.loc 9) (.bin .Pow (.cst (.int (2))) (.loc 2))) (.bin .FloorDiv (.bin .Pow (.cst (.int (2))) (.loc 2)) (.cst (.int (2))))),(.cmp (.bin .Mod (.loc 9) (.cst (.int (3)))) [.Eq] [(.cst (.int (0)))])]))
noncomputable def ZpO:MS:=(.ife (.bool .And [(.cmp (.loc 11) [.In] [(.cst (.bytes [115,113]))]),(.cmp (.bin .Mod (.loc 9) (.cst (.int (5)))) [.Gt] [(.cst (.int (0)))])]) [(.assign (.tup [(.loc 18),(.loc 19)]) (.tup [(.ite (.bool .And [(.cmp (.loc 5) [.Eq] [(.lst [])]),(.cmp (.bin .Mod (.loc 9) (.cst (.int (5)))) [.Eq] [(.cst (.int (1)))])]) (.call 66 [(.loc 9)]) (.call 65 [(.loc 9)])),(.cst (.bool false))]))] [])
noncomputable def ZpP:MS:=(.expr (.callm (.loc 5) 28 [(.ite (.loc 19) (.call 70 [(.loc 18)]) (.loc 18))]))
noncomputable def ZpQ:MS:=(.assign (.loc 4) (.bin .Add (.bin .Add (.bin .Add (.bin .Add (.bin .Add (.loc 4) (.cst (.bytes [37]))) (.call 76 [(.loc 13)])) (.ite (.cmp (.loc 15) [.Gt] [(.cst (.int (0)))]) (.call 70 [(.loc 15)]) (.cst (.bytes [])))) (.loc 16)) (.call 76 [(.lst [(.loc 11)])])))
noncomputable def ZpR:MS:=(.assign (.loc 6) (.bin .Add (.loc 6) (.call 72 [(.loc 13),(.loc 15),(.loc 17),(.loc 11),(.loc 18),(.loc 2)])))
noncomputable def ZrJ:List MS:=[ZpI,ZpJ,ZpK,ZpL,ZpM,ZpN,ZpO,ZpP,ZpQ,ZpR]
noncomputable def ZcZ:List MS:=[ZpH,(.ife (.cmp (.loc 8) [.Eq] [(.cst (.int (0)))]) ZrH [(.ife (.cmp (.loc 8) [.Eq] [(.cst (.int (1)))]) ZrI ZrJ)])]
noncomputable abbrev LV (scr:V) (kC w kL:Nat) (t:List Int) (kV kD:Nat) (r:List (Option V)):List (Option V):=some scr :: some (.ref kC) :: some (.int (w:Int)) :: some (.ref kL) :: some (.bytes t) :: some (.ref kV) :: some (.ref kD) :: r
structure LI (w:Nat) (cells:List Int) (ps:List Pc) (σ:List AO) (kC kL kV kD:Nat):Prop where
 cC:σ[kC]? = some (.list (Za cells))
 cL:σ[kL]? = some (.inst 53 (ZdZ w))
 cV:σ[kV]? = some (.list (Zj ps))
 cD:σ[kD]? = some (.list (Za (ZbR w ps)))
 vC:kV ≠ kC
 vL:kV ≠ kL
 vD:kV < kD
 ok:∀ p ∈ ps,p.Ok w
 octT:Oct (Zp ps)
 octD:Oct (ZbR w ps)
 lenT:(Zp ps).length ≤ 100 * ps.length
 lenD:(ZbR w ps).length ≤ 1000 * ps.length
 lenV:(Zj ps).length ≤ ps.length
 few:ps.length ≤ 10
 clo:∀ y ∈ Zj ps,∀ n,V.lt n y
section
variable {w kC kL kV kD:Nat} {cells:List Int} {ps:List Pc} {σ g:List AO} {scr:V} {p:Pc}
theorem LI.app (h:LI w cells ps σ kC kL kV kD):LI w cells ps (σ ++ g) kC kL kV kD :=
 { h with
  cC:=by rw [List.getElem?_append_left (Zas h.cC)];exact h.cC
  cL:=by rw [List.getElem?_append_left (Zas h.cL)];exact h.cL
  cV:=by rw [List.getElem?_append_left (Zas h.cV)];exact h.cV
  cD:=by rw [List.getElem?_append_left (Zas h.cD)];exact h.cD }
theorem Zb9:Zp (ps ++ [p]) = Zp ps ++ p.text:=by unfold Zp;simp
theorem Zfp:Zj (ps ++ [p]) = Zj ps ++ p.vals:=by unfold Zj;simp
theorem Zfq:ZbR w (ps ++ [p]) = ZbR w ps ++ p.due w:=by unfold ZbR;simp
theorem LI.next {σ':List AO} {kD':Nat} (h:LI w cells ps σ kC kL kV kD) (hC:σ'[kC]? = some (.list (Za cells))) (hL:σ'[kL]? = some (.inst 53 (ZdZ w))) (hV:σ'[kV]? = some (.list (Zj ps ++ p.vals))) (hD:σ'[kD']? = some (.list (Za (ZbR w ps ++ p.due w)))) (hk:kV < kD')
  (ok:p.Ok w) (oT:Oct p.text) (oD:Oct (p.due w)) (lT:p.text.length ≤ 100) (lD:(p.due w).length ≤ 1000) (lV:p.vals.length ≤ 1) (few:ps.length < 10) (clo:∀ y ∈ p.vals,∀ n,V.lt n y):LI w cells (ps ++ [p]) σ' kC kL kV kD':=by
 refine ⟨hC,hL,by rw [Zfp];exact hV,by rw [Zfq];exact hD,h.vC,h.vL,hk,fun q hq => ?_,?_,?_,?_,?_,?_,by simp;omega,fun y hy => ?_⟩
 ·rcases List.mem_append.mp hq with z | z
  ·exact h.ok q z
  ·rw [List.mem_singleton] at z;subst z;exact ok
 ·rw [Zb9];exact h.octT.app oT
 ·rw [Zfq];exact h.octD.app oD
 ·have:=h.lenT
  rw [Zb9,List.length_append,List.length_append,List.length_singleton];omega
 ·have:=h.lenD
  rw [Zfq,List.length_append,List.length_append,List.length_singleton];omega
 ·have:=h.lenV
  rw [Zfp,List.length_append,List.length_append,List.length_singleton];omega
 ·rw [Zfp] at hy
  rcases List.mem_append.mp hy with z | z
  ·exact h.clo y z
  ·exact clo y z
noncomputable abbrev lsc:Scope:=Zb 106 none
variable {c:Int} {a8 a9 a10 a11 a12 a13 a14 a15 a16 a17 a18 a19 a20 a21 a22 a23:Option V} {t:List Int}
theorem ZkH:TS lsc 10 ZpH (LV scr kC w kL t kV kD [some (.int c),a8,a9,a10,a11,a12,a13,a14,a15,a16,a17,a18,a19,a20,a21,a22,a23]) σ
  (.next (LV scr kC w kL t kV kD [some (.int c),some (.int (c % 4)),some (.int (c / 4)),a10,a11,a12,a13,a14,a15,a16,a17,a18,a19,a20,a21,a22,a23])) σ :=
 TS.pack (is:=[8,9]) (TEs.cons (TE.bin (TE.loc rfl) TE.int (Z8 (by decide))) (TEs.one (TE.bin (TE.loc rfl) TE.int (Zw (by decide) (by decide))))) rfl (.inl rfl) rfl (by decide) (by simp)
theorem ZgZ {n:Int}:Oct ((ZB n).filter (· != 37)):=fun x hx => ZaU n x ((List.mem_filter.mp hx).1)
theorem Zn8 {n:Int}:((ZB n).filter (· != 37)).length ≤ 5:=Nat.le_trans (List.length_filter_le _ _) (Zav n)
theorem Zme (h:LI w cells ps σ kC kL kV kD) (few:ps.length < 10) (hc:c % 4 = 0):∃ p σ' kD' r',TSs lsc 10 ZcZ (LV scr kC w kL (Zp ps) kV kD [some (.int c),a8,a9,a10,a11,a12,a13,a14,a15,a16,a17,a18,a19,a20,a21,a22,a23]) σ (.next (LV scr kC w kL (Zp (ps ++ [p])) kV kD' r')) σ' ∧ LI w cells (ps ++ [p]) σ' kC kL kV kD' ∧ r'.length = 17:=by
 have lT:=h.lenT
 have lD:=h.lenD
 have fl:=Zn8 (n:=c / 4)
 have hdl:IsL (σ ++ [.list (Za ((ZB (c / 4)).filter (· != 37)))]) (.ref kD) (Za (ZbR w ps)):=(h.app (g:=[.list (Za ((ZB (c / 4)).filter (· != 37)))])).cD
 have hpl:IsL (σ ++ [.list (Za ((ZB (c / 4)).filter (· != 37)))]) (.ref σ.length) (Za ((ZB (c / 4)).filter (· != 37))):=Zm
 have ad:=Zbv (d:=10) hdl hpl (by rw [Zg,Zg];omega)
 rw [ZaB] at ad
 refine ⟨.plain ((ZB (c / 4)).filter (· != 37)),σ ++ [.list (Za ((ZB (c / 4)).filter (· != 37)))] ++ [.list (Za (ZbR w ps ++ (ZB (c / 4)).filter (· != 37)))],(σ ++ [AO.list (Za ((ZB (c / 4)).filter (· != 37)))]).length,
  [some (.int c),some (.int (c % 4)),some (.int (c / 4)),some (.ref σ.length),a11,a12,a13,a14,a15,a16,a17,a18,a19,a20,a21,a22,a23],?_,?_,rfl⟩
 ·rw [Zb9]
  refine TSs.cons ZkH (TSs.if_do (TB.eqv (TB.cmp (TE.loc rfl) TE.int op_eq) (by simpa using hc)) (TSs.cons (Zn6 rfl (by decide)) (TSs.cons (TS.pack (is:=[4,6]) (vs:=[.bytes (Zp ps ++ (ZB (c / 4)).filter (· != 37)),.ref (σ ++ [AO.list (Za ((ZB (c / 4)).filter (· != 37)))]).length]) (TEs.cons (TE.bin (TE.loc rfl) (TE.blt (j:=2) rfl (by decide +kernel) rfl (TEs.one (TE.loc rfl)) (Z4 hpl ZgZ (by omega))) (Z0 (by omega))) (TEs.one (TE.bin (TE.loc rfl) (TE.loc rfl) ad))) rfl (.inl rfl) rfl (by decide) (by simp)) TSs.nil)) ?_)
  exact TSs.nil
 ·have h2:LI w cells ps (σ ++ [.list (Za ((ZB (c / 4)).filter (· != 37)))] ++ [.list (Za (ZbR w ps ++ (ZB (c / 4)).filter (· != 37)))]) kC kL kV kD:=h.app.app
  refine h.next (p:=.plain _) h2.cC h2.cL ?_ Zm ?_ (fun x hx => ?_) ZgZ ZgZ (Nat.le_trans fl (by decide)) (Nat.le_trans fl (by decide)) (by simp [Pc.vals]) few (by simp [Pc.vals])
  ·show _ = some (AO.list (Zj ps ++ []))
   rw [List.append_nil];exact h2.cV
  ·have:=Zas h.cV
   simp;omega
  ·have:=(List.mem_filter.mp hx).2
   simpa using this
theorem Zmf (h:LI w cells ps σ kC kL kV kD) (few:ps.length < 10) (hc:c % 4 = 1):∃ p σ' kD' r',TSs lsc 10 ZcZ (LV scr kC w kL (Zp ps) kV kD [some (.int c),a8,a9,a10,a11,a12,a13,a14,a15,a16,a17,a18,a19,a20,a21,a22,a23]) σ (.next (LV scr kC w kL (Zp (ps ++ [p])) kV kD' r')) σ' ∧ LI w cells (ps ++ [p]) σ' kC kL kV kD' ∧ r'.length = 17:=by
 have lT:=h.lenT
 have lD:=h.lenD
 have hdl:IsL (σ ++ [.list (Za [37])]) (.ref kD) (Za (ZbR w ps)):=(h.app (g:=[.list (Za [37])])).cD
 have hpl:IsL (σ ++ [.list (Za [37])]) (.ref σ.length) (Za [37]):=Zm
 have ad:=Zbv (d:=10) hdl hpl (by rw [Zg,Zg];simp;omega)
 rw [ZaB] at ad
 refine ⟨.pct,σ ++ [.list (Za [37])] ++ [.list (Za (ZbR w ps ++ [37]))],(σ ++ [AO.list (Za [37])]).length,
  [some (.int c),some (.int (c % 4)),some (.int (c / 4)),a10,a11,a12,a13,a14,a15,a16,a17,a18,a19,a20,a21,a22,a23],?_,?_,rfl⟩
 ·rw [Zb9]
  refine TSs.cons ZkH (TSs.if_else (TB.eqv (TB.cmp (TE.loc rfl) TE.int op_eq) (by rw [hc];rfl)) (TSs.if_do (TB.eqv (TB.cmp (TE.loc rfl) TE.int op_eq) (by rw [hc];rfl)) (TSs.cons (TS.pack (is:=[4,6]) (vs:=[.bytes (Zp ps ++ [37,37]),.ref (σ ++ [AO.list (Za [37])]).length]) (TEs.cons (TE.bin (TE.loc rfl) TE.byt (Z0 (by simp;omega))) (TEs.one (TE.bin (TE.loc rfl) (TE.lst (TEs.one TE.int)) ad))) rfl (.inl rfl) rfl (by decide) (by simp)) TSs.nil) TSs.nil) ?_)
  exact TSs.nil
 ·have o37:∀ l:List Int,(∀ x ∈ l,x = 37) → Oct l:=fun l hl x hx => by rw [hl x hx];decide
  have h2:LI w cells ps (σ ++ [.list (Za [37])] ++ [.list (Za (ZbR w ps ++ [37]))]) kC kL kV kD:=h.app.app
  refine h.next (p:=.pct) h2.cC h2.cL ?_ Zm ?_ trivial (o37 _ (by simp [Pc.text])) (o37 _ (by simp [Pc.due])) (by simp [Pc.text]) (by simp [Pc.due]) (by simp [Pc.vals]) few (by simp [Pc.vals])
  ·show _ = some (AO.list (Zj ps ++ []))
   rw [List.append_nil];exact h2.cV
  ·have:=Zas h.cV
   simp;omega
end
noncomputable def lettersL:List Int:=[100,105,117,111,120,88,99,115,113]
noncomputable def flagsL:List Int:=[45,43,32,35,48]
noncomputable def ZrK:List (Option Nat):=[none,some 0,some 1,some 3,some 12]
noncomputable def ZaN:List V:=[.tup [.bytes [],.none],.tup [.bytes [46],.int 0],.tup [.bytes [46,49],.int 1],.tup [.bytes [46,51],.int 3],.tup [.bytes [46,49,50],.int 12]]
theorem mod_lt {n k:Int} (hk:0 < k):0 ≤ n % k ∧ n % k < k:=⟨Int.emod_nonneg _ (by omega),Int.emod_lt_of_pos _ hk⟩
theorem ZjI {l:List Int} {i:Nat} (h:i < l.length):l.getD i 0 ∈ l:=by
 rw [List.getD_eq_getElem?_getD,List.getElem?_eq_getElem h]
 exact List.getElem_mem h
section
variable {σ g:List AO} {kC w kL kV kD:Nat} {scr:V} {t:List Int} {n:Int} {a7 a8 a9 a10 a11 a12 a13 a14 a15 a16 a17 a18 a19 a20 a21 a22 a23:Option V}
theorem precs_ok:OpV 1 (Fn (.ref 686)) [] σ (.ref σ.length) (σ ++ [.list ZaN]):=by
 refine Zkt (sc:=Zb 95 none) (σ₂:=σ) (e:=[.list ZaN]) (g:=[]) (o:=.ret (.ref σ.length)) (k:=0) Za6 rfl rfl ?_ rfl rfl (by simp [V.lt]) (fun k ao h => .inl h) fun ao hao => ?_
 ·rw [List.append_nil]
  have tt:∀ {as:List ME} {vs:List V},TEs (Zb 95 none) 0 as (List.map some ([]:List V) ++ List.replicate 0 none) σ vs σ → vs.length = 2 → TE (Zb 95 none) 0 (.tup as) (List.map some ([]:List V) ++ List.replicate 0 none) σ (.tup vs) σ:=fun h hl => TE.tup h (by omega)
  exact TSs.ret (TE.lst (TEs.cons (tt (TEs.cons TE.byt (TEs.one TE.none)) rfl) (TEs.cons (tt (TEs.cons TE.byt (TEs.one TE.int)) rfl) (TEs.cons (tt (TEs.cons TE.byt (TEs.one TE.int)) rfl) (TEs.cons (tt (TEs.cons TE.byt (TEs.one TE.int)) rfl) (TEs.one (tt (TEs.cons TE.byt (TEs.one TE.int)) rfl)))))) (by decide))
 ·rw [List.mem_singleton] at hao
  subst hao
  simp [AO.lt,ZaN,V.lts,V.lt]
theorem Zph {i:Nat} (h:i < 5):∃ P,ZaN[i]? = some (.tup [.bytes (pt P),pV P]) ∧ P.getD 0 ≤ 30 ∧ (pt P).length ≤ 3 ∧ Oct (pt P):=by
 have o:∀ l:List Int,(∀ x ∈ l,0 ≤ x ∧ x < 256) → Oct l:=fun l h => h
 match i,h with
 | 0,_ => exact ⟨none,rfl,by decide,by decide,o _ (by decide)⟩
 | 1,_ => exact ⟨some 0,rfl,by decide,by decide,o _ (by decide)⟩
 | 2,_ => exact ⟨some 1,rfl,by decide,by decide,o _ (by decide)⟩
 | 3,_ => exact ⟨some 3,rfl,by decide,by decide,o _ (by decide)⟩
 | 4,_ => exact ⟨some 12,rfl,by decide,by decide,o _ (by decide)⟩
theorem ZqB:∃ l,l ∈ lettersL ∧ TS lsc 10 ZpI (LV scr kC w kL t kV kD [a7,a8,some (.int n),a10,a11,a12,a13,a14,a15,a16,a17,a18,a19,a20,a21,a22,a23]) σ
  (.next (LV scr kC w kL t kV kD [a7,a8,some (.int (n / 9)),a10,some (.int l),a12,a13,a14,a15,a16,a17,a18,a19,a20,a21,a22,a23])) σ:=by
 obtain ⟨h0,h1⟩:=mod_lt (n:=n) (k:=9) (by decide)
 refine ⟨lettersL.getD (n % 9).toNat 0,ZjI (by show _ < 9;omega),?_⟩
 exact TS.pack (is:=[11,9]) (vs:=[.int (lettersL.getD (n % 9).toNat 0),.int (n / 9)]) (TEs.cons (TE.sub (TE.glob rfl) (TE.bin (TE.loc rfl) TE.int (Z8 (by decide))) (ZaP (ks:=lettersL) h0 (by show _ < 9;omega) (by decide))) (TEs.one (TE.bin (TE.loc rfl) TE.int (Zw (by decide) (by decide))))) rfl (.inl rfl) rfl (by decide) (by simp)
theorem ZqC:TS lsc 10 ZpJ (LV scr kC w kL t kV kD [a7,a8,some (.int n),a10,a11,a12,a13,a14,a15,a16,a17,a18,a19,a20,a21,a22,a23]) σ
  (.next (LV scr kC w kL t kV kD [a7,a8,some (.int (n / 6)),a10,a11,some (.int (n % 6)),some (.ref σ.length),a14,a15,a16,a17,a18,a19,a20,a21,a22,a23])) (σ ++ [.list (Za [])]) :=
 TS.pack (is:=[12,9,13]) (vs:=[.int (n % 6),.int (n / 6),.ref σ.length]) (TEs.cons (TE.bin (TE.loc rfl) TE.int (Z8 (by decide))) (TEs.cons (TE.bin (TE.loc rfl) TE.int (Zw (by decide) (by decide))) (TEs.one (TE.lst TEs.nil)))) rfl (.inl rfl) rfl (by decide) (by simp)
noncomputable def Zn9:List MS:=[(.assign (.tup [(.loc 13),(.loc 9)]) (.tup [(.bin .Add (.loc 13) (.lst [(.sub (.glob 60) (.bin .Mod (.loc 9) (.cst (.int (5)))))])),(.bin .FloorDiv (.loc 9) (.cst (.int (5))))]))]
theorem Zpi {kF:Nat} {fl:List Int} (hF:(σ ++ g)[kF]? = some (.list (Za fl))) (hz:fl.length ≤ 10):∃ x,x ∈ flagsL ∧ TSs lsc 10 Zn9 (LV scr kC w kL t kV kD [a7,a8,some (.int n),a10,a11,a12,some (.ref kF),a14,a15,a16,a17,a18,a19,a20,a21,a22,a23]) (σ ++ g)
  (.next (LV scr kC w kL t kV kD [a7,a8,some (.int (n / 5)),a10,a11,a12,some (.ref (σ ++ (g ++ [AO.list (Za [x])])).length),a14,a15,a16,a17,a18,a19,a20,a21,a22,a23])) (σ ++ (g ++ [.list (Za [x])] ++ [.list (Za (fl ++ [x]))])):=by
 obtain ⟨h0,h1⟩:=mod_lt (n:=n) (k:=5) (by decide)
 refine ⟨flagsL.getD (n % 5).toNat 0,ZjI (by show _ < 5;omega),?_⟩
 generalize hx:flagsL.getD (n % 5).toNat 0 = x
 have t1:TE lsc 10 (.sub (.glob 60) (.bin .Mod (.loc 9) (.cst (.int (5))))) (LV scr kC w kL t kV kD [a7,a8,some (.int n),a10,a11,a12,some (.ref kF),a14,a15,a16,a17,a18,a19,a20,a21,a22,a23]) (σ ++ g) (.int x) (σ ++ g):=by
  rw [← hx]
  exact TE.sub (TE.glob rfl) (TE.bin (TE.loc rfl) TE.int (Z8 (by decide))) (ZaP (ks:=flagsL) h0 (by show _ < 5;omega) (by decide))
 have i1:IsL (σ ++ g ++ [.list (Za [x])]) (.ref kF) (Za fl):=IsL.app (u:=.ref kF) hF
 have i2:IsL (σ ++ g ++ [.list (Za [x])]) (.ref (σ ++ g).length) (Za [x]):=Zm
 have ad:=Zbv (d:=10) i1 i2 (by rw [Zg,Zg];simp;omega)
 rw [ZaB] at ad
 rw [← List.append_assoc,← List.append_assoc,← List.append_assoc]
 refine TSs.cons (TS.pack (is:=[13,9]) (vs:=[.ref (σ ++ g ++ [AO.list (Za [x])]).length,.int (n / 5)]) (TEs.cons (TE.bin (TE.loc rfl) (TE.lst (TEs.one t1) (by simp)) ad) (TEs.one (TE.bin (TE.loc rfl) TE.int (Zw (by decide) (by decide))))) rfl (.inl rfl) rfl (by decide) (by simp)) ?_
 exact TSs.nil
theorem Zpj {x:Int} (h:x ∈ flagsL):Zam x = true:=by
 unfold Zam
 rw [List.contains_iff_mem];exact h
theorem ZpS:∀ (ts:List Int) (n:Int) (fl:List Int) (g:List AO) (kF:Nat) (a14:Option V),(σ ++ g)[kF]? = some (.list (Za fl)) → (∀ x ∈ fl,x ∈ flagsL) → Closed g → fl.length + ts.length ≤ 5 → σ.length ≤ kF →
  ∃ n' fl' g' kF' a14',Lp lsc 10 (fun _ => True) (.loc 14) Zn9 (Za ts) (LV scr kC w kL t kV kD [a7,a8,some (.int n),a10,a11,a12,some (.ref kF),a14,a15,a16,a17,a18,a19,a20,a21,a22,a23]) (σ ++ g)
   (.next (LV scr kC w kL t kV kD [a7,a8,some (.int n'),a10,a11,a12,some (.ref kF'),a14',a15,a16,a17,a18,a19,a20,a21,a22,a23])) (σ ++ g') ∧ (σ ++ g')[kF']? = some (.list (Za fl')) ∧ (∀ x ∈ fl',x ∈ flagsL) ∧ Closed g' ∧ fl'.length ≤ 5 ∧ σ.length ≤ kF'
 | [],n,fl,g,kF,a14,hF,hx,hg,hz,hk => ⟨n,fl,g,kF,a14,.nil,hF,hx,hg,by simpa using hz,hk⟩
 | y :: ts,n,fl,g,kF,a14,hF,hx,hg,hz,hk => by
  rw [List.length_cons] at hz
  obtain ⟨x,hxm,ht⟩:=Zpi (scr:=scr) (kC:=kC) (w:=w) (kL:=kL) (t:=t) (kV:=kV) (kD:=kD) (n:=n) (a7:=a7) (a8:=a8) (a10:=a10) (a11:=a11) (a12:=a12) (a14:=some (.int y)) (a15:=a15) (a16:=a16) (a17:=a17) (a18:=a18) (a19:=a19) (a20:=a20) (a21:=a21) (a22:=a22) (a23:=a23) hF (by omega)
  have hF2:(σ ++ (g ++ [.list (Za [x])] ++ [.list (Za (fl ++ [x]))]))[(σ ++ (g ++ [AO.list (Za [x])])).length]? = some (.list (Za (fl ++ [x]))):=by
   rw [← List.append_assoc];exact Zm
  obtain ⟨n',fl',g',kF',a',h1,h2,h3,h4,h5,h6⟩:=ZpS ts (n / 5) (fl ++ [x]) _ _ (some (.int y)) hF2 (fun z hz => by
   rcases List.mem_append.mp hz with q | q
   ·exact hx z q
   ·rw [List.mem_singleton] at q;subst q;exact hxm) ((hg.app (.cons (Zo _) .nil)).app (.cons (Zo _) .nil)) (by rw [List.length_append];simp;omega) (by rw [List.length_append];omega)
  exact ⟨n',fl',g',kF',a',.cons TA.loc ht trivial h1,h2,h3,h4,h5,h6⟩
end
section
variable {sc:Scope} {d:Nat} {ρ ρ₁ ρ₂:List (Option V)} {σ σ₁ σ₂:List AO} {a:Int} {ks:List Int} {vs:List V}
theorem Zoa {α β:Type} (f:α → Option β) (x:α) (xs:List α) (h:f x = none):((x :: xs).filterMap f).length ≠ (x :: xs).length:=by
 rw [List.filterMap_cons,h]
 have:=List.length_filterMap_le f xs
 simp only [List.length_cons]
 omega
theorem ZjJ {env:Env} {es vs:List Expr} {ts1 ts2:List MT} {k k':Nat} {p p':Pos} (C:CTs sc es (.tup ts1 :: ts2)):swappedStores [.Tuple es k p] (.Tuple vs k' p') env = pure none:=by
 obtain ⟨_,_,rfl,c1,c2⟩:=C
 obtain ⟨_,_,_,rfl,c1⟩:=c1
 unfold swappedStores
 dsimp only
 split
 ·rfl
 ·split
  ·rfl
  ·split
   ·rfl
   ·rename_i h
    refine absurd ?_ h
    rw [Bool.or_eq_true]
    refine .inl ?_
    rw [bne_iff_ne]
    intro q
    exact Zoa _ _ _ rfl q
theorem TS.nest {ts1 ts2:List MT} {as:List ME} (h1:TEs sc d as ρ σ vs σ₁) (h2:TA sc d (.tup (.tup ts1 :: ts2)) (.tup vs) ρ σ₁ ρ₂ σ₂) (hz:vs.length ≤ 1000):TS sc d (.assign (.tup (.tup ts1 :: ts2)) (.tup as)) ρ σ (.next ρ₂) σ₂:=by
 intro w h₀ A env pe ι P s E F C S Q k
 obtain ⟨_,_,_,rfl,c1,c2⟩:=C
 have c1':=c1
 have c2':=c2
 obtain ⟨_,_,_,rfl,c1⟩:=c1
 obtain ⟨_,_,_,rfl,c2⟩:=c2
 refine Zv (TE.tup h1 hz w h₀ A env _ ι P s E F c2' S _ ?_) rfl (ZjJ c1)
 intro ι₁ P₁ g₁ t₁ i₁ p₁ S₁ x hx
 rw [ZH c1']
 exact h2 w h₀ A env _ ι₁ P₁ { s with heap:=g₁,toks:=t₁ } E x F c1' S₁ hx _ fun ι₂ P₂ g₂ t₂ i₂ p₂ S₂ => k ι₂ P₂ g₂ t₂ (i₁.trans i₂) (p₁.trans p₂) S₂ _ .next
theorem Zmg {u v:V} (hu:IsL σ u vs) (hv:IsL σ v []):OpV d (Cmp .Eq) [u,v] σ (.bool vs.isEmpty) σ:=by
 cases vs with
 | nil => exact (Zgl (ks:=[]) (ls:=[]) hu hv).eqv rfl
 | cons y ys =>
  refine .two fun c ι P s x' y' R S r1 r2 Q kQ => ?_
  obtain ⟨q,items,n,rfl,e1,e2⟩:=hu.items S r1
  obtain ⟨q',items',n',rfl,f1,f2⟩:=hv.items S r2
  have l1:items.size = ys.length + 1:=by rw [← Array.length_toList,← e2.length];rfl
  have l2:items'.size = 0:=by rw [← Array.length_toList,← f2.length];rfl
  refine up (SeqAt.eq_list_lengthsAt (Zq e1) (Zq f1) ?_ (by have:=R.units;omega) (Ze S kQ s.toks _ .bool))
  rw [bne_iff_ne,l1,l2];simp
theorem Zmh {b c:Array UInt8} (h:KBw.bInts b = KBw.bInts c):b.toList = c.toList:=by
 unfold KBw.bInts at h
 refine (List.map_inj_right fun x y q => ?_).mp h
 exact UInt8.toNat_inj.mp (by exact_mod_cast q)
theorem Zmi {u v:V} (hu:IsL σ u [.tup [.int a,.bytes ks]]) (hv:IsL σ v [.tup [.int a,.bytes ks]]):OpV d (Cmp .Eq) [u,v] σ (.bool true) σ:=.two fun c ι P s x' y' R S r1 r2 Q kQ => by
 obtain ⟨q,items,n,rfl,e1,e2⟩:=hu.items S r1
 obtain ⟨q',items',n',rfl,f1,f2⟩:=hv.items S r2
 have l1:items.size = 1:=by rw [← Array.length_toList,← e2.length];rfl
 have l2:items'.size = 1:=by rw [← Array.length_toList,← f2.length];rfl
 have R2:=R.units
 obtain ⟨x0,g1,h1⟩:=e2.get (i:=0) rfl
 obtain ⟨y0,g2,h2⟩:=f2.get (i:=0) rfl
 rw [Array.getElem?_toList] at g1 g2
 have key:SeqAt.EqAt c.A.in1 s x0 y0 true:=by
  obtain ⟨A1,I1,N1,rfl,p1,q1⟩:=h1.tup'
  obtain ⟨A2,I2,N2,rfl,p2,q2⟩:=h2.tup'
  have m1:I1.size = 2:=by rw [← Array.length_toList,← q1.length];rfl
  have m2:I2.size = 2:=by rw [← Array.length_toList,← q2.length];rfl
  obtain ⟨u0,i1,j1⟩:=q1.get (i:=0) rfl
  obtain ⟨v0,i2,j2⟩:=q2.get (i:=0) rfl
  obtain ⟨u1,i3,j3⟩:=q1.get (i:=1) rfl
  obtain ⟨v1,i4,j4⟩:=q2.get (i:=1) rfl
  rw [Array.getElem?_toList] at i1 i2 i3 i4
  by_cases hne:A1 = A2
  ·subst hne;exact SeqAt.EqAt.same _
  ·refine SeqAt.EqAt.of_refs hne ?_
   have T:=SeqAt.RcAt.tuples (A:=c.A.in1) (s:=s) (l:=A1) (b:=A2) (items:=I1) (items2:=I2) (e:=fun _ => true) ⟨_,S.keep _ _ p1,rfl,_,rfl⟩ ⟨_,S.keep _ _ p2,rfl,_,rfl⟩ (by show c.A.units + 1 < cLine;omega) fun j k1 k2 => ?_
   ·have:((List.range (min I1.size I2.size)).all (fun _ => true) && I1.size == I2.size) = true:=by
     rw [m1,m2];rfl
    rw [this] at T
    exact T
   ·rcases j with _ | _ | j
    ·rw [Array.getElem?_eq_getElem k1] at i1
     rw [Array.getElem?_eq_getElem k2] at i2
     rw [Option.some.inj i1,Option.some.inj i2]
     obtain ⟨t1,rfl⟩:=j1.int'
     obtain ⟨t2,rfl⟩:=j2.int'
     intro prog w E Q hq
     exact wpAny_eqBool_int (by simpa using hq)
    ·rw [Array.getElem?_eq_getElem k1] at i3
     rw [Array.getElem?_eq_getElem k2] at i4
     rw [Option.some.inj i3,Option.some.inj i4]
     obtain ⟨b1,t1,rfl,z1⟩:=j3.bytes'
     obtain ⟨b2,t2,rfl,z2⟩:=j4.bytes'
     intro prog w E Q hq
     refine eqBool_bytes ?_
     have:b1.toList = b2.toList:=Zmh (z1.trans z2.symm)
     rw [decide_eq_true this];exact hq
    ·omega
 refine up (SeqAt.eq_listAt (e:=fun _ => true) (Zq e1) (Zq f1) (by rw [l1,l2]) (by omega) (fun j j1 j2 => ?_) ?_)
 ·rcases j with _ | j
  ·rw [Array.getElem?_eq_getElem j1] at g1
   rw [Array.getElem?_eq_getElem j2] at g2
   rw [Option.some.inj g1,Option.some.inj g2]
   exact key
  ·omega
 ·rw [show (List.range items.size).all (fun _ => true) = true by rw [l1];rfl]
  exact Ze S kQ s.toks _ .bool
end
section
variable {σ g:List AO} {kC w kL kV kD kF:Nat} {scr x y:V} {t fl told:List Int} {n v l:Int} {P:Option Nat} {wd:Nat} {b:Bool} {vals:List V} {a7 a8 a9 a10 a11 a12 a13 a14 a15 a16 a17 a18 a19 a20 a21 a22 a23:Option V}
theorem ZqD {m:Int} (hm:0 ≤ m ∧ m ≤ 5):∃ n' fl' g' kF' a14',TS lsc 10 ZpK (LV scr kC w kL t kV kD [a7,a8,some (.int n),a10,a11,some (.int m),some (.ref σ.length),a14,a15,a16,a17,a18,a19,a20,a21,a22,a23]) (σ ++ [.list (Za [])])
   (.next (LV scr kC w kL t kV kD [a7,a8,some (.int n'),a10,a11,some (.int m),some (.ref kF'),a14',a15,a16,a17,a18,a19,a20,a21,a22,a23])) (σ ++ g') ∧ (σ ++ g')[kF']? = some (.list (Za fl')) ∧ (∀ x ∈ fl',x ∈ flagsL) ∧ Closed g' ∧ fl'.length ≤ 5 ∧ σ.length ≤ kF':=by
 have rs:Zco 0 m 1 = m.toNat:=by
  unfold Zco Builtin.Range.rangeSize
  rw [if_pos (by decide)]
  split <;> omega
 have hF:(σ ++ [AO.list (Za []),.rng 0 m 1])[σ.length]? = some (.list (Za [])):=at0
 obtain ⟨n',fl',g',kF',a',h1,h2,h3,h4,h5,h6⟩:=ZpS (scr:=scr) (kC:=kC) (w:=w) (kL:=kL) (t:=t) (kV:=kV) (kD:=kD) (a7:=a7) (a8:=a8) (a10:=a10) (a11:=a11) (a12:=some (.int m)) (a15:=a15) (a16:=a16) (a17:=a17) (a18:=a18) (a19:=a19) (a20:=a20) (a21:=a21) (a22:=a22) (a23:=a23)
  (Zb6 0 1 (Zco 0 m 1)) n [] [.list (Za []),.rng 0 m 1] σ.length a14 hF (by simp) (.cons (Zo []) (.cons (fun _ => trivial) .nil)) (by rw [ZaF,rs];simp;omega) (Nat.le_refl _)
 refine ⟨n',fl',g',kF',a',?_,h2,h3,h4,h5,h6⟩
 have hr:(σ ++ [.list (Za [])] ++ [.rng 0 m 1])[(σ ++ [AO.list (Za [])]).length]? = some (.rng 0 m 1):=Zm
 have it:=Zcp (d:=10) hr (ZaV (by omega) (.inl rfl)).1 (ZaV (by omega) (.inl rfl)).2
 have e1:σ ++ [AO.list (Za [])] ++ [AO.rng 0 m 1] = σ ++ [.list (Za []),.rng 0 m 1]:=by rw [List.append_assoc];rfl
 exact TS.for (TE.blt (j:=9) rfl (by decide +kernel) rfl (TEs.one (TE.loc rfl)) Zfi) it (by rw [e1];exact h1)
theorem ZqE:∃ wd:Nat,wd ≤ 12 ∧ TS lsc 10 ZpL (LV scr kC w kL t kV kD [a7,a8,some (.int n),a10,a11,a12,a13,a14,a15,a16,a17,a18,a19,a20,a21,a22,a23]) σ
  (.next (LV scr kC w kL t kV kD [a7,a8,some (.int (n / 13)),a10,a11,a12,a13,a14,some (.int (wd:Int)),a16,a17,a18,a19,a20,a21,a22,a23])) σ:=by
 obtain ⟨h0,h1⟩:=mod_lt (n:=n) (k:=13) (by decide)
 refine ⟨(n % 13).toNat,by omega,?_⟩
 have e:(((n % 13).toNat:Nat):Int) = n % 13:=by omega
 rw [e]
 exact TS.pack (is:=[15,9]) (vs:=[.int (n % 13),.int (n / 13)]) (TEs.cons (TE.bin (TE.loc rfl) TE.int (Z8 (by decide))) (TEs.one (TE.bin (TE.loc rfl) TE.int (Zw (by decide) (by decide))))) rfl (.inl rfl) rfl (by decide) (by simp)
theorem ZqF:∃ P:Option Nat,P.getD 0 ≤ 30 ∧ (pt P).length ≤ 3 ∧ Oct (pt P) ∧ TS lsc 10 ZpM (LV scr kC w kL t kV kD [a7,a8,some (.int n),a10,a11,a12,a13,a14,a15,a16,a17,a18,a19,a20,a21,a22,a23]) σ
  (.next (LV scr kC w kL t kV kD [a7,a8,some (.int (n / 5)),a10,a11,a12,a13,a14,a15,some (.bytes (pt P)),some (pV P),a18,a19,a20,a21,a22,a23])) (σ ++ [.list ZaN]):=by
 obtain ⟨h0,h1⟩:=mod_lt (n:=n) (k:=5) (by decide)
 obtain ⟨P,hP,h2,h3,h4⟩:=Zph (i:=(n % 5).toNat) (by omega)
 refine ⟨P,h2,h3,h4,?_⟩
 have il:IsL (σ ++ [.list ZaN]) (.ref σ.length) ZaN:=Zm
 have t1:TE lsc 10 (.sub (.call 63 []) (.bin .Mod (.loc 9) (.cst (.int (5))))) (LV scr kC w kL t kV kD [a7,a8,some (.int n),a10,a11,a12,a13,a14,a15,a16,a17,a18,a19,a20,a21,a22,a23]) σ (.tup [.bytes (pt P),pV P]) (σ ++ [.list ZaN]) :=
  TE.sub (TE.def rfl Za6 TEs.nil (precs_ok.more (by decide))) (TE.bin (TE.loc rfl) TE.int (Z8 (by decide))) (ZcA il h0 (by omega) hP)
 exact TS.nest (vs:=[.tup [.bytes (pt P),pV P],.int (n / 5)]) (TEs.cons t1 (TEs.one (TE.bin (TE.loc rfl) TE.int (Zw (by decide) (by decide))))) (TA.tup (TAs.cons (TA.tup (TAs.cons TA.loc (TAs.cons TA.loc TAs.nil))) (TAs.cons TA.loc TAs.nil))) (by simp)
theorem ZqG (hB:Bits w):∃ v:Int,-(2 ^ (w - 1)) ≤ v ∧ v < 2 ^ (w - 1) ∧ TS lsc 10 ZpN (LV scr kC w kL t kV kD [a7,a8,some (.int n),a10,a11,a12,a13,a14,a15,a16,a17,a18,a19,a20,a21,a22,a23]) σ
  (.next (LV scr kC w kL t kV kD [a7,a8,some (.int n),a10,a11,a12,a13,a14,a15,a16,a17,some (.int v),some (.bool (n % 3 == 0)),a20,a21,a22,a23])) σ:=by
 obtain ⟨p1,p2⟩:=ZgU hB
 have hp:(0:Int) < 2 ^ w:=Int.pow_pos (by decide)
 have hp1:(0:Int) < 2 ^ (w - 1):=Int.pow_pos (by decide)
 have hw:w ≤ 64:=by rcases hB with rfl | rfl | rfl | rfl <;> decide
 obtain ⟨h0,h1⟩:=mod_lt (n:=n) hp
 refine ⟨n % 2 ^ w - 2 ^ w / 2,by omega,by omega,?_⟩
 have tp:∀ {ρ:List (Option V)} {τ:List AO},ρ[2]? = some (some (.int (w:Int))) → TE lsc 10 (.bin .Pow (.cst (.int (2))) (.loc 2)) ρ τ (.int (2 ^ w)) τ:=fun {ρ τ} h => TE.eqv (TE.bin TE.int (TE.loc h) (Ze5 (by omega) (by omega) (by decide))) (by rw [Int.toNat_natCast])
 exact TS.pack (is:=[18,19]) (vs:=[.int (n % 2 ^ w - 2 ^ w / 2),.bool (n % 3 == 0)]) (TEs.cons (TE.bin (TE.bin (TE.loc rfl) (tp rfl) (Z8 hp)) (TE.bin (tp rfl) TE.int (Zw (by decide) (by decide))) Z7) (TEs.one (TE.cmp (TE.bin (TE.loc rfl) TE.int (Z8 (by decide))) TE.int op_eq))) rfl (.inl rfl) rfl (by decide) (by simp)
theorem ZqH (hl:l ∈ lettersL) (hV:IsL σ (.ref kV) vals) (h1:-(2 ^ (w - 1)) ≤ v) (h2:v < 2 ^ (w - 1)):∃ x y b g',Arg l w x y ∧ (b = true → ∃ v,x = .int v ∧ y = .bytes (Zbn v) ∧ v.natAbs ≤ v.natAbs ∧ -(2 ^ (w - 1)) ≤ v ∧ v < 2 ^ (w - 1)) ∧ (b = false → y = x) ∧ Closed g' ∧
  TS lsc 10 ZpO (LV scr kC w kL t kV kD [a7,a8,some (.int n),a10,some (.int l),a12,a13,a14,a15,a16,a17,some (.int v),some (.bool (n % 3 == 0)),a20,a21,a22,a23]) σ
   (.next (LV scr kC w kL t kV kD [a7,a8,some (.int n),a10,some (.int l),a12,a13,a14,a15,a16,a17,some x,some (.bool b),a20,a21,a22,a23])) (σ ++ g'):=by
 have hoct:0 ≤ l ∧ l < 256:=by
  have:∀ z ∈ lettersL,0 ≤ z ∧ z < 256:=by decide
  exact this l hl
 have tb:TB lsc 10 (.bool .And [(.cmp (.loc 11) [.In] [(.cst (.bytes [115,113]))]),(.cmp (.bin .Mod (.loc 9) (.cst (.int (5)))) [.Gt] [(.cst (.int (0)))])]) (LV scr kC w kL t kV kD [a7,a8,some (.int n),a10,some (.int l),a12,a13,a14,a15,a16,a17,some (.int v),some (.bool (n % 3 == 0)),a20,a21,a22,a23]) σ ([115,113].contains l && (decide (0 < n % 5) && true)) σ :=
  TB.bool (TBs.and' (TB.cmp (TE.loc rfl) TE.byt (Zay hoct.1 hoct.2)) fun _ => TBs.and' (TB.cmp (TE.bin (TE.loc rfl) TE.int (Z8 (by decide))) TE.int ZbW) fun _ => TBs.and_nil)
 cases hc:([115,113].contains l && (decide (0 < n % 5) && true)) with
 | false =>
  rw [hc] at tb
  refine ⟨.int v,if (n % 3 == 0) = true then .bytes (Zbn v) else .int v,n % 3 == 0,[],?_,fun hb => ⟨v,rfl,if_pos hb,Nat.le_refl _,h1,h2⟩,fun hb => by rw [hb];exact if_neg (by decide),.nil,?_⟩
  ·split
   ·exact .dec h1 h2
   ·exact .int h1 h2
  ·rw [List.append_nil]
   exact TS.if_f tb TSs.nil
 | true =>
  rw [hc] at tb
  rw [Bool.and_eq_true,List.contains_iff_mem] at hc
  have hl2:l = 115 ∨ l = 113:=by simpa using hc.1
  have il:IsL (σ ++ [.list []]) (.ref σ.length) []:=Zm
  have te1:TB lsc 10 (.cmp (.loc 5) [.Eq] [(.lst [])]) (LV scr kC w kL t kV kD [a7,a8,some (.int n),a10,some (.int l),a12,a13,a14,a15,a16,a17,some (.int v),some (.bool (n % 3 == 0)),a20,a21,a22,a23]) σ vals.isEmpty (σ ++ [.list []]) :=
   TB.cmp (TE.loc rfl) (TE.lst TEs.nil) (Zmg hV.app il)
  have te2:TB lsc 10 (.cmp (.bin .Mod (.loc 9) (.cst (.int (5)))) [.Eq] [(.cst (.int (1)))]) (LV scr kC w kL t kV kD [a7,a8,some (.int n),a10,some (.int l),a12,a13,a14,a15,a16,a17,some (.int v),some (.bool (n % 3 == 0)),a20,a21,a22,a23]) (σ ++ [.list []]) (n % 5 == 1) (σ ++ [.list []]) :=
   TB.cmp (TE.bin (TE.loc rfl) TE.int (Z8 (by decide))) TE.int op_eq
  have tx:∃ ks,Oct ks ∧ ks.length ≤ 101 ∧ TE lsc 10 (.ite (.bool .And [(.cmp (.loc 5) [.Eq] [(.lst [])]),(.cmp (.bin .Mod (.loc 9) (.cst (.int (5)))) [.Eq] [(.cst (.int (1)))])]) (.call 66 [(.loc 9)]) (.call 65 [(.loc 9)]))
    (LV scr kC w kL t kV kD [a7,a8,some (.int n),a10,some (.int l),a12,a13,a14,a15,a16,a17,some (.int v),some (.bool (n % 3 == 0)),a20,a21,a22,a23]) σ (.bytes ks) (σ ++ [.list []]):=by
   have toct:=TE.def (sc:=lsc) (d:=10) (f:=65) (ρ:=LV scr kC w kL t kV kD [a7,a8,some (.int n),a10,some (.int l),a12,a13,a14,a15,a16,a17,some (.int v),some (.bool (n % 3 == 0)),a20,a21,a22,a23]) (σ:=σ ++ [.list []]) rfl ZU (TEs.one (TE.loc (i:=9) (v:=.int n) rfl)) (octets_ok.more (by decide))
   have tlong:=TE.def (sc:=lsc) (d:=10) (f:=66) (ρ:=LV scr kC w kL t kV kD [a7,a8,some (.int n),a10,some (.int l),a12,a13,a14,a15,a16,a17,some (.int v),some (.bool (n % 3 == 0)),a20,a21,a22,a23]) (σ:=σ ++ [.list []]) rfl ZcG (TEs.one (TE.loc (i:=9) (v:=.int n) rfl)) (long_ok.more (by decide))
   cases hv:vals.isEmpty with
   | false =>
    rw [hv] at te1
    exact ⟨_,ZaU n,Nat.le_trans (Zav n) (by decide),TE.ite_f (TB.bool (TBs.and_f te1)) toct⟩
   | true =>
    rw [hv] at te1
    cases h5:n % 5 == 1 with
    | false =>
     rw [h5] at te2
     exact ⟨_,ZaU n,Nat.le_trans (Zav n) (by decide),TE.ite_f (TB.bool (TBs.and_t te1 (TBs.and_f te2))) toct⟩
    | true =>
     rw [h5] at te2
     exact ⟨_,ZlS n,ZlT n,TE.ite_t (TB.bool (TBs.and_t te1 (TBs.and_t te2 TBs.and_nil))) tlong⟩
  obtain ⟨ks,ho,hz,hx⟩:=tx
  refine ⟨.bytes ks,.bytes ks,false,[.list []],.txt hl2 ho hz,(fun h => by cases h),fun _ => rfl,.cons (Zo []) .nil,TS.if_t tb (TSs.cons (TS.pack (is:=[18,19]) (vs:=[.bytes ks,.bool false]) (TEs.cons hx (TEs.one TE.tt)) rfl (.inl rfl) rfl (by decide) (by simp)) ?_)⟩
  exact TSs.nil
end
section
variable {σ g:List AO} {kC w kL kV kD kF:Nat} {scr x y:V} {t fl:List Int} {n v l c:Int} {P:Option Nat} {wd:Nat} {b:Bool} {vals:List V} {cells:List Int} {ps:List Pc} {a7 a8 a9 a10 a11 a12 a13 a14 a15 a16 a17 a18 a19 a20 a21 a22 a23:Option V}
theorem ZqI (hB:Bits w) (hV:σ[kV]? = some (.list vals)) (hz:vals.length ≤ 100) (hb1:b = true → ∃ v,x = .int v ∧ y = .bytes (Zbn v) ∧ v.natAbs ≤ v.natAbs ∧ -(2 ^ (w - 1)) ≤ v ∧ v < 2 ^ (w - 1)) (hb2:b = false → y = x) :
  TS lsc 10 ZpP (LV scr kC w kL t kV kD [a7,a8,a9,a10,a11,a12,a13,a14,a15,a16,a17,some x,some (.bool b),a20,a21,a22,a23]) σ
   (.next (LV scr kC w kL t kV kD [a7,a8,a9,a10,a11,a12,a13,a14,a15,a16,a17,some x,some (.bool b),a20,a21,a22,a23])) (σ.set kV (.list (vals ++ [y]))):=by
 have tv:TE lsc 10 (.ite (.loc 19) (.call 70 [(.loc 18)]) (.loc 18)) (LV scr kC w kL t kV kD [a7,a8,a9,a10,a11,a12,a13,a14,a15,a16,a17,some x,some (.bool b),a20,a21,a22,a23]) σ y σ:=by
  cases b with
  | true =>
   obtain ⟨v,rfl,rfl,_,h1,h2⟩:=hb1 rfl
   exact TE.ite_t (TB.val (TE.loc rfl)) (TE.def rfl Zab (TEs.one (TE.loc rfl)) ((Zem (ZdA (by decide) (Arg.nat hB h1 h2))).more (by decide)))
  | false =>
   rw [hb2 rfl]
   exact TE.ite_f (TB.val (TE.loc rfl)) (TE.loc rfl)
 exact TS.expr (TE.callm (TE.loc rfl) (ZP ZI hV) (TEs.one tv) (ZdI hV (by omega)))
theorem ZkI (hfl:fl.length ≤ 5) (hpt:(pt P).length ≤ 3):(Pc.dir fl wd P l y).text.length ≤ 20:=by
 have:(nt wd).length ≤ 2:=by unfold nt;split <;> (try split) <;> simp
 simp only [Pc.text,List.length_cons,List.length_append,List.length_nil]
 omega
theorem ZqJ (hF:IsL σ (.ref kF) (Za fl)) (hfo:Oct fl) (hfl:fl.length ≤ 5) (hwd:wd ≤ 12) (hpt:(pt P).length ≤ 3) (hl:0 ≤ l ∧ l < 256) (ht:t.length ≤ 10000) :
  TS lsc 10 ZpQ (LV scr kC w kL t kV kD [a7,a8,a9,a10,some (.int l),a12,some (.ref kF),a14,some (.int (wd:Int)),some (.bytes (pt P)),a17,a18,a19,a20,a21,a22,a23]) σ
   (.next (LV scr kC w kL (t ++ (Pc.dir fl wd P l y).text) kV kD [a7,a8,a9,a10,some (.int l),a12,some (.ref kF),a14,some (.int (wd:Int)),some (.bytes (pt P)),a17,a18,a19,a20,a21,a22,a23])) (σ ++ [.list (Za [l])]):=by
 have hnt:(nt wd).length ≤ 2:=by unfold nt;split <;> (try split) <;> simp
 have tw:TE lsc 10 (.ite (.cmp (.loc 15) [.Gt] [(.cst (.int (0)))]) (.call 70 [(.loc 15)]) (.cst (.bytes []))) (LV scr kC w kL t kV kD [a7,a8,a9,a10,some (.int l),a12,some (.ref kF),a14,some (.int (wd:Int)),some (.bytes (pt P)),a17,a18,a19,a20,a21,a22,a23]) σ (.bytes (nt wd)) σ:=by
  have tb:TB lsc 10 (.cmp (.loc 15) [.Gt] [(.cst (.int (0)))]) (LV scr kC w kL t kV kD [a7,a8,a9,a10,some (.int l),a12,some (.ref kF),a14,some (.int (wd:Int)),some (.bytes (pt P)),a17,a18,a19,a20,a21,a22,a23]) σ (decide ((0:Int) < wd)) σ:=TB.cmp (TE.loc rfl) TE.int ZbW
  by_cases h0:0 < wd
  ·rw [decide_eq_true (by omega)] at tb
   rw [← Zo5 h0 (by omega)]
   exact TE.ite_t tb (TE.def rfl Zab (TEs.one (TE.loc rfl)) ((Zem (ZdA (by decide) (by omega))).more (by decide)))
  ·rw [decide_eq_false (by omega)] at tb
   have:wd = 0:=by omega
   subst this
   exact TE.ite_f tb TE.byt
 have i1:IsL (σ ++ [.list (Za [l])]) (.ref σ.length) (Za [l]):=Zm
 have o1:Oct [l]:=fun z hz => by rw [List.mem_singleton] at hz;subst hz;exact hl
 have e:t ++ (Pc.dir fl wd P l y).text = ((((t ++ [37]) ++ fl) ++ nt wd) ++ pt P) ++ [l]:=by simp [Pc.text]
 rw [e]
 refine TS.assign (v:=.bytes (((((t ++ [37]) ++ fl) ++ nt wd) ++ pt P) ++ [l])) (σ₁:=σ ++ [.list (Za [l])]) (TE.bin (TE.bin (TE.bin (TE.bin (TE.bin (TE.loc rfl) TE.byt (Z0 (by simp;omega))) (TE.blt (j:=2) rfl (by decide +kernel) rfl (TEs.one (TE.loc rfl)) (Z4 hF hfo (by omega))) (Z0 (by simp;omega))) tw (Z0 (by simp;omega))) (TE.loc rfl) (Z0 (by simp;omega))) (TE.blt (j:=2) rfl (by decide +kernel) rfl (TEs.one (TE.lst (TEs.one (TE.loc rfl)) (by simp))) (Z4 i1 o1 (by simp))) (Z0 (by simp;omega))) ?_ rfl rfl
 exact TA.loc
theorem ZqK {due:List Int} (hD:IsL σ (.ref kD) (Za due)) (hz:due.length ≤ 100000) {out:List Int} (ho:out.length ≤ 1000) (hp:OpL 5 (Fn (.ref 753)) [.ref kF,.int (wd:Int),pV P,.int l,x,.int (w:Int)] σ out):∃ g',Closed g' ∧
  TS lsc 10 ZpR (LV scr kC w kL t kV kD [a7,a8,a9,a10,some (.int l),a12,some (.ref kF),a14,some (.int (wd:Int)),a16,some (pV P),some x,a19,a20,a21,a22,a23]) σ
   (.next (LV scr kC w kL t kV (σ ++ g').length [a7,a8,a9,a10,some (.int l),a12,some (.ref kF),a14,some (.int (wd:Int)),a16,some (pV P),some x,a19,a20,a21,a22,a23])) (σ ++ g' ++ [.list (Za (due ++ out))]):=by
 obtain ⟨g',hg',hc⟩:=hp
 have i1:IsL (σ ++ g' ++ [.list (Za out)]) (.ref kD) (Za due):=hD.app.app
 have i2:IsL (σ ++ g' ++ [.list (Za out)]) (.ref (σ ++ g').length) (Za out):=Zm
 have ad:=Zbv (d:=10) i1 i2 (by rw [Zg,Zg];omega)
 rw [ZaB] at ad
 refine ⟨g' ++ [.list (Za out)],hg'.app (.cons (Zo _) .nil),?_⟩
 rw [← List.append_assoc]
 refine TS.assign (v:=.ref (σ ++ g' ++ [AO.list (Za out)]).length) (TE.bin (TE.loc rfl) (TE.def rfl Zy (TEs.cons (TE.loc rfl) (TEs.cons (TE.loc rfl) (TEs.cons (TE.loc rfl) (TEs.cons (TE.loc rfl) (TEs.cons (TE.loc rfl) (TEs.one (TE.loc rfl)))))) ) (hc.more (by decide))) ad) ?_ rfl rfl
 exact TA.loc
theorem Zpk:∀ z ∈ lettersL,Ltr z ∧ 0 ≤ z ∧ z < 256:=by
 intro z hz
 simp only [lettersL,List.mem_cons,List.not_mem_nil,or_false] at hz
 unfold Ltr
 rcases hz with rfl | rfl | rfl | rfl | rfl | rfl | rfl | rfl | rfl <;> decide
theorem Arg.lt {l:Int} {w:Nat} {x y:V} (A:Arg l w x y) (n:Nat):V.lt n y:=by cases A <;> trivial
theorem ZqL {n:Nat} (h:n ≤ 12):Oct (nt n):=by
 intro z hz
 unfold nt at hz
 split at hz
 ·cases hz
 ·split at hz
  ·rw [List.mem_singleton] at hz;subst hz;omega
  ·rcases List.mem_cons.mp hz with rfl | hz
   ·omega
   ·rw [List.mem_singleton] at hz;subst hz;omega
theorem Zmj {fl:List Int} (h:∀ z ∈ fl,z ∈ flagsL):Oct fl:=fun z hz => by
 have:∀ z ∈ flagsL,0 ≤ z ∧ z < 256:=by decide
 exact this z (h z hz)
theorem ZkJ {fl:List Int} {wd w:Nat} {P:Option Nat} {l:Int} {y:V} (h1:Oct fl) (h2:wd ≤ 12) (h3:Oct (pt P)) (h4:0 ≤ l ∧ l < 256):Oct (Pc.dir fl wd P l y).text:=by
 have o1:∀ {x:Int},0 ≤ x ∧ x < 256 → Oct [x]:=fun h z hz => by rw [List.mem_singleton] at hz;subst hz;exact h
 exact (o1 (x:=37) (by decide)).app (h1.app ((ZqL h2).app (h3.app (o1 h4))))
theorem Zmk (hB:Bits w) (h:LI w cells ps σ kC kL kV kD) (few:ps.length < 10) (hc0:c % 4 ≠ 0) (hc1:c % 4 ≠ 1):∃ p σ' kD' r',TSs lsc 10 ZcZ (LV scr kC w kL (Zp ps) kV kD [some (.int c),a8,a9,a10,a11,a12,a13,a14,a15,a16,a17,a18,a19,a20,a21,a22,a23]) σ (.next (LV scr kC w kL (Zp (ps ++ [p])) kV kD' r')) σ' ∧ LI w cells (ps ++ [p]) σ' kC kL kV kD' ∧ r'.length = 17:=by
 have lT:=h.lenT
 have lD:=h.lenD
 have lV:=h.lenV
 obtain ⟨l,hl,t0⟩:=ZqB (σ:=σ) (scr:=scr) (kC:=kC) (w:=w) (kL:=kL) (t:=Zp ps) (kV:=kV) (kD:=kD) (n:=c / 4) (a7:=some (.int c)) (a8:=some (.int (c % 4))) (a10:=a10) (a11:=a11) (a12:=a12) (a13:=a13) (a14:=a14) (a15:=a15) (a16:=a16) (a17:=a17) (a18:=a18) (a19:=a19) (a20:=a20) (a21:=a21) (a22:=a22) (a23:=a23)
 have t1:=ZqC (σ:=σ) (scr:=scr) (kC:=kC) (w:=w) (kL:=kL) (t:=Zp ps) (kV:=kV) (kD:=kD) (n:=c / 4 / 9) (a7:=some (.int c)) (a8:=some (.int (c % 4))) (a10:=a10) (a11:=some (.int l)) (a12:=a12) (a13:=a13) (a14:=a14) (a15:=a15) (a16:=a16) (a17:=a17) (a18:=a18) (a19:=a19) (a20:=a20) (a21:=a21) (a22:=a22) (a23:=a23)
 obtain ⟨q1,q2⟩:=mod_lt (n:=c / 4 / 9) (k:=6) (by decide)
 obtain ⟨n2,fl,g2,kF,b14,t2,hF,hfm,hg2,hfl,hkF⟩:=ZqD (σ:=σ) (scr:=scr) (kC:=kC) (w:=w) (kL:=kL) (t:=Zp ps) (kV:=kV) (kD:=kD) (n:=c / 4 / 9 / 6) (m:=c / 4 / 9 % 6) (a7:=some (.int c)) (a8:=some (.int (c % 4))) (a10:=a10) (a11:=some (.int l)) (a14:=a14) (a15:=a15) (a16:=a16) (a17:=a17) (a18:=a18) (a19:=a19) (a20:=a20) (a21:=a21) (a22:=a22) (a23:=a23) (by omega)
 generalize c / 4 / 9 % 6 = m at t1 t2
 obtain ⟨wd,hwd,t3⟩:=ZqE (σ:=σ ++ g2) (scr:=scr) (kC:=kC) (w:=w) (kL:=kL) (t:=Zp ps) (kV:=kV) (kD:=kD) (n:=n2) (a7:=some (.int c)) (a8:=some (.int (c % 4))) (a10:=a10) (a11:=some (.int l)) (a12:=some (.int m)) (a13:=some (.ref kF)) (a14:=b14) (a15:=a15) (a16:=a16) (a17:=a17) (a18:=a18) (a19:=a19) (a20:=a20) (a21:=a21) (a22:=a22) (a23:=a23)
 obtain ⟨P,hP,hpt,hpo,t4⟩:=ZqF (σ:=σ ++ g2) (scr:=scr) (kC:=kC) (w:=w) (kL:=kL) (t:=Zp ps) (kV:=kV) (kD:=kD) (n:=n2 / 13) (a7:=some (.int c)) (a8:=some (.int (c % 4))) (a10:=a10) (a11:=some (.int l)) (a12:=some (.int m)) (a13:=some (.ref kF)) (a14:=b14) (a15:=some (.int (wd:Int))) (a16:=a16) (a17:=a17) (a18:=a18) (a19:=a19) (a20:=a20) (a21:=a21) (a22:=a22) (a23:=a23)
 obtain ⟨v,hv1,hv2,t5⟩:=ZqG (σ:=σ ++ g2 ++ [AO.list ZaN]) (scr:=scr) (kC:=kC) (w:=w) (kL:=kL) (t:=Zp ps) (kV:=kV) (kD:=kD) (n:=n2 / 13 / 5) (a7:=some (.int c)) (a8:=some (.int (c % 4))) (a10:=a10) (a11:=some (.int l)) (a12:=some (.int m)) (a13:=some (.ref kF)) (a14:=b14) (a15:=some (.int (wd:Int))) (a16:=some (.bytes (pt P))) (a17:=some (pV P)) (a18:=a18) (a19:=a19) (a20:=a20) (a21:=a21) (a22:=a22) (a23:=a23) hB
 have h5:LI w cells ps (σ ++ g2 ++ [AO.list ZaN]) kC kL kV kD:=h.app.app
 obtain ⟨x,y,b,g6,hA,hb1,hb2,hg6,t6⟩:=ZqH (σ:=σ ++ g2 ++ [AO.list ZaN]) (vals:=Zj ps) (scr:=scr) (kC:=kC) (w:=w) (kL:=kL) (t:=Zp ps) (kV:=kV) (kD:=kD) (n:=n2 / 13 / 5) (a7:=some (.int c)) (a8:=some (.int (c % 4))) (a10:=a10) (a12:=some (.int m)) (a13:=some (.ref kF)) (a14:=b14) (a15:=some (.int (wd:Int))) (a16:=some (.bytes (pt P))) (a17:=some (pV P)) (a20:=a20) (a21:=a21) (a22:=a22) (a23:=a23) hl (show IsL _ (.ref kV) _ from h5.cV) hv1 hv2
 have h6:LI w cells ps (σ ++ g2 ++ [AO.list ZaN] ++ g6) kC kL kV kD:=h5.app
 have hF6:(σ ++ g2 ++ [AO.list ZaN] ++ g6)[kF]? = some (.list (Za fl)):=by
  have:=IsL.app (g:=g6) (IsL.app (g:=[AO.list ZaN]) (u:=.ref kF) (show IsL (σ ++ g2) (.ref kF) (Za fl) from hF))
  exact this
 generalize hτ:σ ++ g2 ++ [AO.list ZaN] ++ g6 = τ at t6 h6 hF6
 have hτl:σ.length ≤ τ.length:=by rw [← hτ];simp
 have t7:=ZqI (scr:=scr) (kC:=kC) (w:=w) (kL:=kL) (t:=Zp ps) (kV:=kV) (kD:=kD) (a7:=some (.int c)) (a8:=some (.int (c % 4))) (a9:=some (.int (n2 / 13 / 5))) (a10:=a10) (a11:=some (.int l)) (a12:=some (.int m)) (a13:=some (.ref kF)) (a14:=b14) (a15:=some (.int (wd:Int))) (a16:=some (.bytes (pt P))) (a17:=some (pV P)) (a20:=a20) (a21:=a21) (a22:=a22) (a23:=a23) hB h6.cV (by omega) hb1 hb2
 have kvlt:=Zas h6.cV
 have kvσ:=Zas h.cV
 have neF:kF ≠ kV:=by omega
 obtain ⟨hltr,hloct⟩:=Zpk l hl
 have hfo:Oct fl:=Zmj hfm
 have hF7:IsL (τ.set kV (AO.list (Zj ps ++ [y]))) (.ref kF) (Za fl):=by
  show (τ.set kV _)[kF]? = _
  rw [List.getElem?_set_ne (Ne.symm neF)];exact hF6
 have t8:=ZqJ (σ:=τ.set kV (AO.list (Zj ps ++ [y]))) (scr:=scr) (kC:=kC) (w:=w) (kL:=kL) (t:=Zp ps) (kV:=kV) (kD:=kD) (y:=y) (a7:=some (.int c)) (a8:=some (.int (c % 4))) (a9:=some (.int (n2 / 13 / 5))) (a10:=a10) (a12:=some (.int m)) (a14:=b14) (a17:=some (pV P)) (a18:=some x) (a19:=some (.bool b)) (a20:=a20) (a21:=a21) (a22:=a22) (a23:=a23) hF7 hfo hfl hwd hpt hloct (by omega)
 have hF8:IsL (τ.set kV (AO.list (Zj ps ++ [y])) ++ [AO.list (Za [l])]) (.ref kF) (Za fl):=hF7.app
 obtain ⟨pc1,pc2,pc3,pc4⟩:=Zma (P:=P) hF8 hB (by omega:wd ≤ 30) hP hl hA
 have hD8:IsL (τ.set kV (AO.list (Zj ps ++ [y])) ++ [AO.list (Za [l])]) (.ref kD) (Za (ZbR w ps)):=by
  refine IsL.app (u:=.ref kD) ?_
  show (τ.set kV _)[kD]? = _
  rw [List.getElem?_set_ne (Nat.ne_of_lt h6.vD)];exact h6.cD
 obtain ⟨g9,hg9,t9⟩:=ZqK (σ:=τ.set kV (AO.list (Zj ps ++ [y])) ++ [AO.list (Za [l])]) (scr:=scr) (kC:=kC) (w:=w) (kL:=kL) (t:=Zp ps ++ (Pc.dir fl wd P l y).text) (kV:=kV) (kD:=kD) (a7:=some (.int c)) (a8:=some (.int (c % 4))) (a9:=some (.int (n2 / 13 / 5))) (a10:=a10) (a12:=some (.int m)) (a14:=b14) (a16:=some (.bytes (pt P))) (a19:=some (.bool b)) (a20:=a20) (a21:=a21) (a22:=a22) (a23:=a23) hD8 (by omega) pc4 pc1
 refine ⟨.dir fl wd P l y,τ.set kV (AO.list (Zj ps ++ [y])) ++ [AO.list (Za [l])] ++ g9 ++ [.list (Za (ZbR w ps ++ ZaG fl wd (pV P) l y w))],(τ.set kV (AO.list (Zj ps ++ [y])) ++ [AO.list (Za [l])] ++ g9).length,
  [some (.int c),some (.int (c % 4)),some (.int (n2 / 13 / 5)),a10,some (.int l),some (.int m),some (.ref kF),b14,some (.int (wd:Int)),some (.bytes (pt P)),some (pV P),some x,some (.bool b),a20,a21,a22,a23],?_,?_,rfl⟩
 ·rw [Zb9]
  refine TSs.cons ZkH (TSs.if_else (TB.eqv (TB.cmp (TE.loc rfl) TE.int op_eq) (by simpa using hc0)) (TSs.if_else (TB.eqv (TB.cmp (TE.loc rfl) TE.int op_eq) (by simpa using hc1)) ?_ TSs.nil) TSs.nil)
  exact TSs.cons t0 (TSs.cons t1 (TSs.cons t2 (TSs.cons t3 (TSs.cons t4 (TSs.cons t5 (TSs.cons t6 (TSs.cons t7 (TSs.cons t8 (TSs.cons t9 TSs.nil)))))))))
 ·have pieceOk:(Pc.dir fl wd P l y).Ok w:=⟨fun z hz => Zpj (hfm z hz),hfl,by omega,by omega,hltr,pc2⟩
  have hpo2:Oct (Pc.dir fl wd P l y).text:=ZkJ (w:=w) hfo hwd hpo hloct
  have up:∀ {k:Nat} {ao:AO},k ≠ kV → τ[k]? = some ao → (τ.set kV (AO.list (Zj ps ++ [y])) ++ [AO.list (Za [l])] ++ g9 ++ [.list (Za (ZbR w ps ++ ZaG fl wd (pV P) l y w))])[k]? = some ao:=fun {k ao} hk e => by
   have hlt:=Zas e
   rw [List.append_assoc,List.append_assoc,List.getElem?_append_left (by rw [List.length_set];exact hlt),List.getElem?_set_ne (Ne.symm hk)];exact e
  refine h.next (p:=.dir fl wd P l y) (up (Ne.symm h.vC) h6.cC) (up (Ne.symm h.vL) h6.cL) ?_ Zm ?_ pieceOk hpo2 pc3 (Nat.le_trans (ZkI hfl hpt) (by decide)) pc4 (by simp [Pc.vals]) few ?_
  ·rw [List.append_assoc,List.append_assoc,List.getElem?_append_left (by rw [List.length_set];exact kvlt),List.getElem?_set_self kvlt];rfl
  ·rw [List.length_append,List.length_append,List.length_set];omega
  ·exact fun z hz nn => (List.mem_singleton.mp hz).symm ▸ hA.lt nn
end
noncomputable def Zg0:Nat → List (Option V) → List (Option V)
 | 0,_ => []
 | n + 1,r => r.headD none :: Zg0 n r.tail
theorem Zg1 {n:Nat} {r:List (Option V)} (h:r.length = n):r = Zg0 n r:=by
 induction n generalizing r with
 | zero => exact List.eq_nil_of_length_eq_zero h
 | succ n ih =>
  cases r with
  | nil => cases h
  | cons a r => exact congrArg (a :: ·) (ih (Nat.succ.inj h))
section
variable {σ g:List AO} {kC w kL kV kD:Nat} {scr:V} {n c:Int} {cells:List Int}
theorem ZqM (hB:Bits w) (cs:List Int):∀ (ps:List Pc) (σ:List AO) (kD:Nat) (r:List (Option V)),LI w cells ps σ kC kL kV kD → ps.length + cs.length ≤ 5 → r.length = 17 →
  ∃ ps' σ' kD' r',Lp lsc 10 (fun τ => IsL τ (.ref kC) (Za cells)) (.loc 7) ZcZ (Za cs) (LV scr kC w kL (Zp ps) kV kD r) σ (.next (LV scr kC w kL (Zp ps') kV kD' r')) σ' ∧ LI w cells ps' σ' kC kL kV kD' ∧ ps'.length ≤ 5 ∧ r'.length = 17:=by
 induction cs with
 | nil => exact fun ps σ kD r h hz hr => ⟨ps,σ,kD,r,.nil,h,hz,hr⟩
 | cons c cs ih =>
  intro ps σ kD r h hz hr
  rw [List.length_cons] at hz
  have turn:∃ p σ' kD' r',TSs lsc 10 ZcZ (LV scr kC w kL (Zp ps) kV kD (some (.int c) :: (Zg0 16 r.tail))) σ (.next (LV scr kC w kL (Zp (ps ++ [p])) kV kD' r')) σ' ∧ LI w cells (ps ++ [p]) σ' kC kL kV kD' ∧ r'.length = 17:=by
   by_cases c0:c % 4 = 0
   ·exact Zme h (by omega) c0
   ·by_cases c1:c % 4 = 1
    ·exact Zmf h (by omega) c1
    ·exact Zmk hB h (by omega) c0 c1
  obtain ⟨p,σ₁,kD₁,r₁,t1,h1,hr1⟩:=turn
  obtain ⟨ps',σ',kD',r',hl,h',hz',hr'⟩:=ih (ps ++ [p]) σ₁ kD₁ r₁ h1 (by rw [List.length_append,Nat.add_assoc,Nat.add_comm [p].length];exact hz) hr1
  refine ⟨ps',σ',kD',r',?_,h',hz',hr'⟩
  rw [Zg1 hr]
  exact .cons TA.loc t1 (show IsL σ₁ (.ref kC) _ from h1.cC) hl
noncomputable def Zpl:MS:=(.assign (.loc 20) (.bin .Mod (.call 80 [(.loc 1)]) (.cst (.int (9)))))
noncomputable def Zob:List MS:=[(.assign (.tup [(.loc 21),(.loc 22)]) (.sub (.glob 64) (.loc 20))),(.ret (some (.cmp (.call 73 [(.bin .Add (.loc 4) (.loc 21)),(.bin .Add (.loc 5) (.loc 22)),(.loc 3)]) [.Is] [(.cst .none)])))]
noncomputable def Zla:MS:=(.ife (.cmp (.call 73 [(.loc 4),(.bin .Add (.loc 5) (.bin .Mult (.lst [(.cst (.int (7)))]) (.bin .Sub (.loc 20) (.cst (.int (5)))))),(.loc 3)]) [.NotEq] [(.call 76 [(.loc 6)])]) [(.ret (some (.cst (.bool false))))] [])
noncomputable def Zlb:List MS:=[(.assign (.loc 23) (.call 65 [(.bin .FloorDiv (.call 80 [(.loc 1)]) (.cst (.int (9))))])),
 (.ret (some (.cmp (.call 59 [(.call 12 [(.loc 23)]),(.cst (.bytes [61,113])),(.call 16 [])]) [.Eq] [(.lst [(.tup [(.glob 51),(.loc 23)])])])))]
noncomputable def ZqN:List MS:=Zpl :: (.ife (.cmp (.loc 20) [.Lt] [(.cst (.int (5)))]) Zob []) :: Zla :: Zlb
variable {ps:List Pc} {a7 a8 a9 a10 a11 a12 a13 a14 a15 a16 a17 a18 a19 a20 a21 a22 a23:Option V}
theorem LI.vals (h:LI w cells ps σ kC kL kV kD) (hB:Bits w) {u:V} {ex:List V} (hu:IsL (σ ++ g) u (Zj ps ++ ex)) (hx:∀ x,u ≠ .ext x) (hz:ex.length ≤ 100) (hc:∀ y ∈ ex,∀ n,V.lt n y) (hlt:V.lt (σ ++ g).length u):ValsAt (σ ++ g) u kL (Zj ps ++ ex) w:=by
 have lV:=h.lenV
 have few:=h.few
 refine ⟨hu,hx,⟨ZdZ w,(h.app (g:=g)).cL,rfl⟩,hB,by rw [List.length_append];omega,fun y hy => ?_,hlt⟩
 rcases List.mem_append.mp hy with q | q
 ·exact h.clo y q _
 ·exact hc y q _
theorem Zlc (h:LI w cells ps σ kC kL kV kD) {d:Nat} {ρ:List (Option V)} (h1:ρ[1]? = some (some (.ref kC))):TE lsc d (.call 80 [(.loc 1)]) ρ σ (.int cells.sum) σ :=
 TE.blt (j:=6) rfl (by decide +kernel) rfl (TEs.one (TE.loc h1)) (ZmX (show IsL σ (.ref kC) _ from h.cC))
theorem Zpm (hB:Bits w) (h:LI w cells ps σ kC kL kV kD) {k:Nat} (hk:k < 5):TZ lsc 10 Zob (LV scr kC w kL (Zp ps) kV kD [a7,a8,a9,a10,a11,a12,a13,a14,a15,a16,a17,a18,a19,some (.int (k:Int)),a21,a22,a23]) σ true:=by
 have lT:=h.lenT
 have lD:=h.lenD
 have lV:=h.lenV
 have few:=h.few
 obtain ⟨wr,ex,e1,e2,hz1,hz2,ho,hc⟩:∃ wr ex,ZkC[k]? = some (wr,ex) ∧ (match (GV[64]?:Option V) with | some (.flst ws) => ws | _ => [])[k]? = some (.tup [.bytes wr,.flst ex]) ∧ wr.length ≤ 100 ∧ ex.length ≤ 100 ∧ Oct wr ∧ ∀ y ∈ ex,∀ n,V.lt n y:=by
  have o:∀ l:List Int,(∀ x ∈ l,0 ≤ x ∧ x < 256) → Oct l:=fun l h => h
  match k,hk with
  | 0,_ => exact ⟨_,_,rfl,rfl,by decide,by decide,o _ (by decide),by simp [V.lt]⟩
  | 1,_ => exact ⟨_,_,rfl,rfl,by decide,by decide,o _ (by decide),by simp [V.lt]⟩
  | 2,_ => exact ⟨_,_,rfl,rfl,by decide,by decide,o _ (by decide),by simp [V.lt]⟩
  | 3,_ => exact ⟨_,_,rfl,rfl,by decide,by decide,o _ (by decide),by simp⟩
  | 4,_ => exact ⟨_,_,rfl,rfl,by decide,by decide,o _ (by decide),by simp [V.lt]⟩
 have i1:IsL σ (.ref kV) (Zj ps):=h.cV
 have ad:=Zbv (d:=10) (σ:=σ) i1 (show IsL σ (.flst ex) ex from rfl) (by omega)
 have va:=h.vals (g:=[.list (Zj ps ++ ex)]) hB (u:=.ref σ.length) (ex:=ex) Zm (by simp) hz2 hc (by simp [V.lt])
 have fx:=Zo8 (w:=w) (ps:=ps) (wr:=wr) (ex:=ex) h.ok (Zo9 e1)
 refine TZ.cons (TS.assign (v:=.tup [.bytes wr,.flst ex]) (σ₁:=σ) (TE.sub (TE.glob rfl) (TE.loc rfl) (ZcA (v:=_) rfl (by omega) (by omega) (by rw [Int.toNat_natCast];exact e2))) (TA.tup (TAs.cons TA.loc (TAs.cons TA.loc TAs.nil)))) ?_
 exact TZ.tried rfl Zao (TEs.cons (TE.bin (TE.loc rfl) (TE.loc rfl) (Z0 (by omega))) (TEs.cons (TE.bin (TE.loc rfl) (TE.loc rfl) ad) (TEs.one (TE.loc rfl)))) (Zkv (h.octT.app ho) (by rw [List.length_append];omega) va fx (by omega))
end
section
variable {σ g:List AO} {kC w kL kV kD:Nat} {scr:V} {n c:Int} {cells:List Int} {ps:List Pc} {a7 a8 a9 a10 a11 a12 a13 a14 a15 a16 a17 a18 a19 a20 a21 a22 a23:Option V}
theorem ZrL (k:Nat):(List.replicate k [V.int 7]).flatten = List.replicate k (V.int 7):=by
 induction k with
 | zero => rfl
 | succ k ih => rw [List.replicate_succ,List.flatten_cons,ih];rfl
theorem Zoc (hB:Bits w) (h:LI w cells ps σ kC kL kV kD) {k:Nat} (hk:k < 9) (hk5:5 ≤ k):TZ lsc 10 (Zla :: Zlb) (LV scr kC w kL (Zp ps) kV kD [a7,a8,a9,a10,a11,a12,a13,a14,a15,a16,a17,a18,a19,some (.int (k:Int)),a21,a22,a23]) σ true:=by
 have lT:=h.lenT
 have lD:=h.lenD
 have lV:=h.lenV
 have few:=h.few
 have i7:IsL (σ ++ [.list [.int 7]]) (.ref σ.length) [.int 7]:=Zm
 have m7:=ZiY (d:=10) (a:=(k:Int) - 5) i7 (by omega) (by simp;omega) (by omega)
 rw [ZrL] at m7
 have iv:IsL (σ ++ [.list [.int 7]] ++ [.list (List.replicate ((k:Int) - 5).toNat (V.int 7))]) (.ref kV) (Zj ps):=h.app.app.cV
 have i77:IsL (σ ++ [.list [.int 7]] ++ [.list (List.replicate ((k:Int) - 5).toNat (V.int 7))]) (.ref (σ ++ [AO.list [.int 7]]).length) (List.replicate ((k:Int) - 5).toNat (V.int 7)):=Zm
 have ad:=Zbv (d:=10) iv i77 (by rw [List.length_replicate];omega)
 generalize hex:List.replicate ((k:Int) - 5).toNat (V.int 7) = ex at *
 have hexz:ex.length ≤ 100:=by rw [← hex,List.length_replicate];omega
 have hexc:∀ y ∈ ex,∀ n,V.lt n y:=fun y hy nn => by
  rw [← hex] at hy
  rw [(List.mem_replicate.mp hy).2];simp [V.lt]
 have eg:σ ++ [AO.list [.int 7]] ++ [.list ex] ++ [.list (Zj ps ++ ex)] = σ ++ ([AO.list [.int 7]] ++ [.list ex] ++ [.list (Zj ps ++ ex)]):=by simp
 have va:=h.vals (g:=[AO.list [.int 7]] ++ [.list ex] ++ [.list (Zj ps ++ ex)]) hB (u:=.ref (σ ++ [AO.list [.int 7]] ++ [AO.list ex]).length) (ex:=ex) (by rw [← eg];exact Zm) (by simp) hexz hexc (by rw [← eg];simp [V.lt])
 rw [← eg] at va
 have ok:=ZnK h.octT (by omega) va (Zqr (w:=w) (ps:=ps) (ex:=ex) h.ok) (by omega)
 have h2:LI w cells ps (σ ++ [AO.list [.int 7]] ++ [.list ex] ++ [.list (Zj ps ++ ex)]) kC kL kV kD:=h.app.app.app
 have tb:TB lsc 10 (.cmp (.call 73 [(.loc 4),(.bin .Add (.loc 5) (.bin .Mult (.lst [(.cst (.int (7)))]) (.bin .Sub (.loc 20) (.cst (.int (5)))))),(.loc 3)]) [.NotEq] [(.call 76 [(.loc 6)])])
   (LV scr kC w kL (Zp ps) kV kD [a7,a8,a9,a10,a11,a12,a13,a14,a15,a16,a17,a18,a19,some (.int (k:Int)),a21,a22,a23]) σ false (σ ++ [AO.list [.int 7]] ++ [.list ex] ++ [.list (Zj ps ++ ex)]) :=
  TB.eqv (TB.cmp (TE.def rfl Zao (TEs.cons (TE.loc rfl) (TEs.cons (TE.bin (TE.loc rfl) (TE.bin (TE.lst (TEs.one TE.int)) (TE.bin (TE.loc rfl) TE.int Z7) m7) ad) (TEs.one (TE.loc rfl)))) ok) (TE.blt (j:=2) rfl (by decide +kernel) rfl (TEs.one (TE.loc rfl)) (Z4 (show IsL _ (.ref kD) _ from h2.cD) h.octD (by omega))) ZmK) (by simp)
 refine TZ.cons (TS.if_f tb TSs.nil) ?_
 generalize σ ++ [AO.list [.int 7]] ++ [.list ex] ++ [.list (Zj ps ++ ex)] = τ at h2
 have t1:TE lsc 10 (.call 65 [(.bin .FloorDiv (.call 80 [(.loc 1)]) (.cst (.int (9))))]) (LV scr kC w kL (Zp ps) kV kD [a7,a8,a9,a10,a11,a12,a13,a14,a15,a16,a17,a18,a19,some (.int (k:Int)),a21,a22,a23]) τ (.bytes (ZB (cells.sum / 9))) τ :=
  TE.def rfl ZU (TEs.one (TE.bin (Zlc h2 rfl) TE.int (Zw (by decide) (by decide)))) (octets_ok.more (by decide))
 refine TZ.cons (TS.assign t1 TA.loc) ?_
 have so:=ZaU (cells.sum / 9)
 have sz:=Zav (cells.sum / 9)
 generalize ZB (cells.sum / 9) = sm at so sz ⊢
 have hL:∃ fs,(τ ++ [AO.inst 53 (ZdZ 64)])[τ.length]? = some (.inst 53 fs) ∧ Zbw 9 fs = some (.int 1000000):=⟨ZdZ 64,Zm,rfl⟩
 obtain ⟨σ',r,ha,hr,hle⟩:=Zhr so (by omega) hL
 have hr2:IsL (σ' ++ [.list [.tup [.int 286,.bytes sm]]]) (.ref r) [.tup [.int 286,.bytes sm]]:=IsL.app (u:=.ref r) hr
 have hn2:IsL (σ' ++ [.list [.tup [.int 286,.bytes sm]]]) (.ref σ'.length) [.tup [.int 286,.bytes sm]]:=Zm
 exact TZ.of (TSs.ret (TE.cmp (TE.def rfl Zck (TEs.cons (TE.def rfl ZbN (TEs.one (TE.loc rfl)) ((ZgF so (by omega)).more (by decide))) (TEs.cons TE.byt (TEs.one (TE.cls rfl (.head _) TEs.nil (Zpg (d:=9)))))) (ha.more (by decide))) (TE.lst (TEs.one (TE.tup (TEs.cons (TE.glob rfl) (TEs.one (TE.loc rfl))) (by simp))) (by simp)) (Zmi hr2 hn2)))
end
theorem Zpn {M:Model} {A:Around} {E:Value → Shared → Prop} {s:Shared} {env:Env} {n kn:Str} {p1 p2 p:Pos} {v:Expr} {h:Heap} {Q:Value → Shared → Prop}
  (hh:wpAny M A (eval (.Name n p1) env) (fun f s₁ => (∃ kk,(kk = .frame ∨ kk = .machine) ∧ Looks M h (keeperOf f) kk) ∧ wpAny M A (eval v env) (fun x s₂ => (∀ b o,h.get? b = some o → s₂.heap.get? b = some o) ∧ wpAny M A (PySem.call f [] [(kn,x)]) Q E s₂) E s₁) E s) :
  wpAny M A (eval (.Call (.Name n p1) [] [⟨some kn,v,p2⟩] p) env) Q E s:=by
 show wpAny M A (eval (.Name n p1) env >>= fun f => callWith p f [] [] (backToKw p (keywordEach [⟨some kn,v,p2⟩] env))) Q E s
 refine wpAny_bind (wpAny_mono hh (fun f s₁ h₁ => ?_) fun _ _ x => x)
 obtain ⟨⟨kk,hkk,hk⟩,h₁⟩:=h₁
 show wpAny M A (callWith p f [] [] [(some kn,do let x ← eval v env;standAt p;pure x)]) Q E s₁
 unfold callWith
 refine wpAny_bind (wpAny_holding ?_)
 unfold evalArgs
 refine wpAny_bind (wpAny_pure ?_)
 refine wpAny_bind (wpAny_pure ?_)
 refine wpAny_holding ?_
 refine wpAny_bind ?_
 show wpAny M A (do let x ← (do let x ← eval v env;standAt p;pure x);let r ← holding [x] (pure []);pure (x :: r)) _ E s₁
 refine wpAny_bind (wpAny_bind (wpAny_mono h₁ (fun x s₂ h₂ => ?_) fun _ _ x => x))
 refine wpAny_bind (wpAny_standAt (wpAny_pure (wpAny_bind (wpAny_holding (wpAny_pure (wpAny_pure ?_))))))
 refine wpAny_bind (wpAny_pure (wpAny_pure ?_))
 dsimp only
 refine wpAny_bind (wpAny_standAt ?_)
 have tail:∀ {t:Sem Value},wpAny M A t Q E s₂ → wpAny M A (t >>= fun r => holding [r] point >>= fun _ => pure r) Q E s₂ :=
  fun ht => wpAny_bind (wpAny_mono ht (fun r s₂ hr => wpAny_bind (wpAny_holding (Zdc (wpAny_pure hr)))) fun _ _ x => x)
 refine wpAny_bind (up (hk A _ E s₂ h₂.1 ?_))
 rcases hkk with rfl | rfl
 ·exact tail (fun Γ p hΓ hc => by rw [callMarked,Sem.wp_keep];exact h₂.2 Γ p hΓ hc)
 ·exact tail h₂.2
section
variable {sc:Scope} {d:Nat} {ρ:List (Option V)} {σ σ₁:List AO} {b:Int}
theorem TE.limw {e:ME} (h1:TE sc (d + 1) e ρ σ (.int b) σ₁):TE sc (d + 1) (.callk 16 0 e) ρ σ (.ref σ₁.length) (σ₁ ++ [.inst 53 (ZdZ b)]):=by
 intro w h₀ A env pe ι P s E F C S Q k
 obtain ⟨_,_,_,_,_,_,rfl,c1,c2,c3,c4,c5⟩:=C
 rename_i n p1 kn p2 v p
 have ekn:kn = Str.ofString "width":=by
  have:AN[0]? = some (Str.ofString "width"):=rfl
  rw [this] at c4;exact (Option.some.inj c4).symm
 subst ekn
 refine Zpn (h:=h₀) (wpAny_Name (Zbe (i:=16) F S (ZcN c1 rfl) c2 rfl fun x hx => ?_) c3)
 obtain rfl:=hx.ext'
 refine ⟨⟨_,.inr rfl,ZhE F.gl (.head _)⟩,?_⟩
 refine h1 w h₀ A env _ ι P s E F c5 S _ ?_
 intro ι₁ P₁ g₁ t₁ i₁ p₁ S₁ x hx
 refine ⟨S₁.keep0,?_⟩
 obtain ⟨t,rfl⟩:=hx.int'
 ·exact ZjH (c:=cx w h₀ A env sc ρ E) (s:={ s with heap:=g₁,toks:=t₁ }) (kw:=[("width",.int b t)]) (first:=fun _ => .int b t)
   (fun pm cdv dV self x1 x2 x3 x4 x5 x6 x7 x8 x9 x10 => Zmc pm cdv dV self (.int b t) x1 x2 x3 x4 x5 x6 x7 x8 x9 x10) (fun _ => ⟨t,rfl⟩) F.toRm S₁ (k.up i₁ p₁)
end
noncomputable def Zpo:List MS:=[
 (.assign (.loc 1) (.comp (.call 74 [(.loc 1)]) (.slc (.loc 0) none (some (.cst (.int (5))))) [])),
 (.assign (.loc 2) (.sub (.lst [(.cst (.int (8))),(.cst (.int (16))),(.cst (.int (32))),(.cst (.int (64)))]) (.bin .Mod (.call 80 [(.loc 1)]) (.cst (.int (4)))))),
 (.assign (.loc 3) (.callk 16 0 (.loc 2))),
 (.assign (.tup [(.loc 4),(.loc 5),(.loc 6)]) (.tup [(.cst (.bytes [])),(.lst []),(.lst [])])),
 (.for (.loc 7) (.loc 1) ZcZ)]
theorem Zml:Zm3 = Zpo ++ ZqN:=rfl
theorem Zpp {k:Nat} (h:k < 4):∃ w:Nat,Bits w ∧ (Za [8,16,32,64])[k]? = some (.int (w:Int)):=by
 match k,h with
 | 0,_ => exact ⟨8,.inl rfl,rfl⟩
 | 1,_ => exact ⟨16,.inr (.inl rfl),rfl⟩
 | 2,_ => exact ⟨32,.inr (.inr (.inl rfl)),rfl⟩
 | 3,_ => exact ⟨64,.inr (.inr (.inr rfl)),rfl⟩
theorem Zpq {ns:List Int} (hz:ns.length ≤ 63):TZ lsc 10 Zm3 (some (.flst (Za ns)) :: List.replicate 23 none) [] true:=by
 rw [Zml]
 have i0:IsL [] (.flst (Za ns)) (Za ns):=rfl
 have t0:=Zn5 (sc:=lsc) (d:=10) (ρ:=some (.flst (Za ns)) :: List.replicate 23 none) (i:=1) i0 rfl (by omega)
 generalize hcl:Ze1 ((ns.take 5).map Int.natAbs) = cells at t0
 have hcz:cells.length ≤ 5:=by
  rw [← hcl];unfold Ze1
  rw [List.length_map,List.length_map,List.length_take];omega
 obtain ⟨m0,m1⟩:=mod_lt (n:=cells.sum) (k:=4) (by decide)
 obtain ⟨w,hB,hw⟩:=Zpp (k:=(cells.sum % 4).toNat) (by omega)
 generalize hA:AO.list (Za (ns.take 5)) = A at t0
 have ib:IsL [A,.list (Za cells),.list (Za [8,16,32,64])] (.ref 2) (Za [8,16,32,64]):=rfl
 have ic:IsL [A,.list (Za cells),.list (Za [8,16,32,64])] (.ref 1) (Za cells):=rfl
 have t1:TE lsc 10 (.sub (.lst [(.cst (.int (8))),(.cst (.int (16))),(.cst (.int (32))),(.cst (.int (64)))]) (.bin .Mod (.call 80 [(.loc 1)]) (.cst (.int (4))))) (some (.flst (Za ns)) :: some (.ref 1) :: List.replicate 22 none) [A,.list (Za cells)] (.int (w:Int)) [A,.list (Za cells),.list (Za [8,16,32,64])] :=
  TE.sub (TE.lst (TEs.cons TE.int (TEs.cons TE.int (TEs.cons TE.int (TEs.one TE.int))))) (TE.bin (TE.blt (j:=6) rfl (by decide +kernel) rfl (TEs.one (TE.loc rfl)) (ZmX ic)) TE.int (Z8 (by decide))) (ZcA ib m0 (by omega) hw)
 have t2:TE lsc 10 (.callk 16 0 (.loc 2)) (some (.flst (Za ns)) :: some (.ref 1) :: some (.int (w:Int)) :: List.replicate 21 none) [A,.list (Za cells),.list (Za [8,16,32,64])] (.ref 3) [A,.list (Za cells),.list (Za [8,16,32,64]),.inst 53 (ZdZ w)]:=TE.limw (d:=9) (TE.loc rfl)
 have t3:TS lsc 10 (.assign (.tup [(.loc 4),(.loc 5),(.loc 6)]) (.tup [(.cst (.bytes [])),(.lst []),(.lst [])])) (some (.flst (Za ns)) :: some (.ref 1) :: some (.int (w:Int)) :: some (.ref 3) :: List.replicate 20 none) [A,.list (Za cells),.list (Za [8,16,32,64]),.inst 53 (ZdZ w)]
   (.next (LV (.flst (Za ns)) 1 w 3 (Zp []) 4 5 (List.replicate 17 none))) [A,.list (Za cells),.list (Za [8,16,32,64]),.inst 53 (ZdZ w),.list [],.list []] :=
  TS.pack (is:=[4,5,6]) (vs:=[.bytes [],.ref 4,.ref 5]) (TEs.cons TE.byt (TEs.cons (TE.lst TEs.nil) (TEs.one (TE.lst TEs.nil)))) rfl (.inl rfl) rfl (by decide) (by simp)
 have nil_oct:Oct []:=fun x hx => by cases hx
 have li:LI w cells [] [A,.list (Za cells),.list (Za [8,16,32,64]),.inst 53 (ZdZ w),.list [],.list []] 1 3 4 5 :=
  ⟨rfl,rfl,rfl,rfl,by decide,by decide,by decide,(fun p hp => by cases hp),nil_oct,nil_oct,by decide,Nat.zero_le _,by decide,by decide,(fun y hy => by cases hy)⟩
 obtain ⟨ps,σ',kD',r',hlp,li',hps,hr'⟩:=ZqM (scr:=.flst (Za ns)) hB cells [] _ 5 (List.replicate 17 none) li (by simpa using hcz) (by simp)
 have tf:TS lsc 10 (.for (.loc 7) (.loc 1) ZcZ) (LV (.flst (Za ns)) 1 w 3 (Zp []) 4 5 (List.replicate 17 none)) [A,.list (Za cells),.list (Za [8,16,32,64]),.inst 53 (ZdZ w),.list [],.list []] _ σ' :=
  TS.for (TE.loc rfl) (Zeh (show IsL _ (.ref 1) (Za cells) from rfl)) hlp
 refine TZ.cons t0 (TZ.cons (TS.assign t1 TA.loc) (TZ.cons (TS.assign t2 TA.loc) (TZ.cons t3 (TZ.cons tf ?_))))
 rw [Zg1 hr']
 obtain ⟨s0,s1⟩:=mod_lt (n:=cells.sum) (k:=9) (by decide)
 obtain ⟨k,hk⟩:∃ k:Nat,cells.sum % 9 = (k:Int):=⟨(cells.sum % 9).toNat,by omega⟩
 have te:TE lsc 10 (.bin .Mod (.call 80 [(.loc 1)]) (.cst (.int (9)))) (LV (.flst (Za ns)) 1 w 3 (Zp ps) 4 kD' (Zg0 17 r')) σ' (.int (k:Int)) σ':=by
  rw [← hk]
  exact TE.bin (Zlc li' rfl) TE.int (Z8 (by decide))
 refine TZ.cons (TS.assign te TA.loc) ?_
 have tb:TB lsc 10 (.cmp (.loc 20) [.Lt] [(.cst (.int (5)))]) ((LV (.flst (Za ns)) 1 w 3 (Zp ps) 4 kD' (Zg0 17 r')).set 20 (some (.int (k:Int)))) σ' (decide ((k:Int) < 5)) σ':=TB.cmp (TE.loc rfl) TE.int Zbs
 by_cases h5:k < 5
 ·rw [decide_eq_true (by omega)] at tb
  exact TZ.if_stop tb (Zpm hB li' h5)
 ·rw [decide_eq_false (by omega)] at tb
  exact TZ.cons (TS.if_f tb TSs.nil) (Zoc hB li' (by omega) (by omega))
theorem VRs.of_ints {ι:Ix} {P:Z2}:∀ {xs:List Value} {ns:List Int},IntsAre xs ns → VRs ι P (Za ns) xs:=by
 intro xs ns h
 induction h with
 | nil => exact .nil
 | cons n t _ ih => exact .cons .int ih
theorem ZqO:Zmy:=by
 intro w s a items n ns G hgens hget hints hlen
 obtain ⟨i,j,fi,hft,hfi,hok,hoa,hal,hsc,hcs⟩:=Zj4
 obtain ⟨o1,o2,o3,o4,o5,o6,o7⟩:=Zbh hok
 obtain ⟨pm,cdv,oc,osl,hat,hcd⟩:=G.fn 765 i j fi hft hfi
 have hnd:(fi.args.args.map (·.arg)).Nodup:=by
  rw [← o6]
  exact List.Sublist.nodup (List.take_sublist _ _) o5
 have hxl:fi.args.args.length = [Value.ref a].length:=by rw [hal];rfl
 have hnl:(fi.args.args.map (·.arg)).length = [Value.ref a].length:=by rw [List.length_map];exact hxl
 have hbind:=Zbg (name:=fi.name) (qual:=fi.qual) (body:=fi.body) (scope:=fi.scope) (pm:=pm) (cdv:=cdv) (xs:=[.ref a]) hoa hxl hnd
 refine wpAny_call (Zaw (fd:=fnOf fi.name fi.qual fi.args fi.body fi.scope .none .none .none pm none cdv .none) (body:=fi.body) (binds:=(fi.args.args.map (·.arg)).zip [.ref a])
  (by decide) hat rfl G.lim hcd rfl (BindsTo.of_eq hbind) o4 (fun y hy => o7 _ (List.of_mem_zip hy).1) (fun h₁ hns k₁ => ?_) o2 o3 o1)
 have hv:VR [] s.heap.get? (.flst (Za ns)) (.ref a):=.flst hget (VRs.of_ints hints)
 have hP:s.heap.get? s.heap.objs.size = none:=Heap.get?_none_of_le (Nat.le_refl _)
 have S:St s.heap s.heap.objs.size (Zs fi.scope) (some (.flst (Za ns)) :: List.replicate 23 none) [] s.heap.get? [] h₁:=by
  refine ⟨fun b o e => e,fun b o e => k₁ _ _ e,⟨_,hns,fun i' n' v' e1 e2 => ?_⟩,rfl,fun k ao x y e => by simp at e,hP,fun k x y e => by simp at e,fun k k' x y x' y' e => by simp at e⟩
  cases i' with
  | zero =>
   cases e2
   exact ⟨.ref a,ZcL hnl hnd (ZfX o6 (by rw [hal];decide) e1) rfl,hv⟩
  | succ i' =>
   rw [List.getElem?_cons_succ,List.getElem?_replicate] at e2
   split at e2 <;> cases e2
 have hkind:fi.scope.kind ≠ .module:=by rw [o1];decide
 have hlen63:ns.length ≤ 63:=hlen
 have T:=Zpq hlen63
 rw [show lsc = fi.scope from hsc.symm] at T
 have FX:Fx w s.heap (callerA.deeper (callEnv (fnOf fi.name fi.qual fi.args fi.body fi.scope .none .none .none pm none cdv .none) s.heap.objs.size 765)) (callEnv (fnOf fi.name fi.qual fi.args fi.body fi.scope .none .none .none pm none cdv .none) s.heap.objs.size 765) fi.scope 10:=by
  refine ⟨⟨G,?_,?_,rfl⟩,rfl,o1,o5,rfl,rfl⟩
  ·show (1 + claimMargin) + 1 + 2 * 10 + 4 ≤ recursionLimit
   decide
  ·show 4 + 3 + 8 * 10 + 70 ≤ cLine
   decide
 have FY:Fy s.heap (callerA.deeper (callEnv (fnOf fi.name fi.qual fi.args fi.body fi.scope .none .none .none pm none cdv .none) s.heap.objs.size 765)) (callEnv (fnOf fi.name fi.qual fi.args fi.body fi.scope .none .none .none pm none cdv .none) s.heap.objs.size 765) s.heap.get? [] :=
  ⟨Around.frames_deeper rfl,hkind,rfl,trivial⟩
 exact T w s.heap _ _ fi.body [] s.heap.get? { s with heap:=h₁,toks:=_ } _ FX FY (by rw [hsc];exact hcs) S _ fun h' tk hk => ⟨rfl,hk,rfl,hgens⟩
theorem the_row:PySem.Challenge.rw_nt0666_01.Holds:=Zli ZqO
end Mine
theorem PySem.Challenge.cw_nt0666_01_holds : PySem.Challenge.rw_nt0666_01.Holds :=
  Mine.the_row
