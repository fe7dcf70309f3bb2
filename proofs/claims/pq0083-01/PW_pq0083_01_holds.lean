import PyProof.Rows.All
import Wide.All
import OpenK.AllK
import Wide.FinOn
import Lean
import PySem.Challenge.RW_pq0083_01
open PySem PySem.W PyProof.Rows
set_option Elab.async false
set_option linter.all false
set_option maxRecDepth 100000
set_option genSizeOf false
set_option tactic.hygienic false
set_option compiler.extract_closed false
namespace Mine
set_option tactic.hygienic false
noncomputable def UQ (stp:SharedT->Thread->Option (SharedT×Thread)) (thr okk:Thread->Bool):Nat->SharedT->Thread->Option SharedT
  | 0,_,_=>none
  | n+1,s,t=>match thr t with
    | true=>some s
    | false=>match okk t with
      | false=>none
      | true=>match stp s t with
        | some (s',t')=>UQ stp thr okk n s' t'
        | none=>none
theorem runTT_of {tb:String->Option Builtin} {p:Program} {w:World} {n₀:Nat} {ann:Option Value}:∀{n:Nat} {s s':SharedT} {t:Thread},
    UQ (stepT (denote tb) p w) through (stepOk n₀ ann) n s t=some s'->topRun tb p w n₀ ann n s.abs t=some s'.abs:=λ{n}=>by
  induction n with
  | zero=>intro s s' t h;cases h
  | succ n ih=>
    intro s s' t h;rw [UQ] at h;rw [topRun];cases he:through t with
    | true=>rw [he] at h;cases h;rfl
    | false=>
      rw [he] at h;cases hk:stepOk n₀ ann t with
      | false=>rw [hk] at h;cases h
      | true=>
        rw [hk] at h;cases hs:stepT (denote tb) p w s t with
        | none=>rw [hs] at h;cases h
        | some r=>obtain ⟨s₂,t₂⟩:=r;rw [hs] at h;rw [stepT_spec hs];exact ih h
noncomputable def layT:List Obj->Nat->BT->Option BT
  | [],_,t=>some t
  | o::r,n,t=>match ((t.ins n o).get n).isSome with
    | true=>layT r (n+1) (t.ins n o)
    | false=>none
theorem layT_of {life:Life}:∀{l:List Obj} {n:Nat} {t t':BT} {pre:List Obj},layT l n t=some t'->pre.length=n->PySem.W.absHeap t n life=⟨pre.toArray,life⟩->
    PySem.W.absHeap t' (n+l.length) life=⟨(pre++l).toArray,life⟩:=λ{l}=>by
  induction l with
  | nil=>intro n t t' pre h hn ha;cases h;simpa using ha
  | cons o r ih=>
    intro n t t' pre h hn ha;unfold layT at h;cases g:((t.ins n o).get n).isSome with
    | false=>rw [g] at h;cases h
    | true=>
      rw [g] at h;have:=ih (pre:=pre++[o]) h (by simp [hn]) (by rw [PySem.W.absHeap_ins g,ha];simp [Heap.push]);rw [List.length_cons,show n+(r.length+1)=n+1+r.length by omega,this];simp
noncomputable def toT (s:Shared):Option SharedT:=(layT s.heap.objs.toList 0 .nil).map λt=>⟨t,s.heap.objs.size,s.heap.life,s.gens,s.drawn,s.toks,s.os⟩
theorem toT_of {s:Shared} {t:SharedT} (h:toT s=some t):t.abs=s:=by
  obtain ⟨bt,h1,rfl⟩:=Option.map_eq_some_iff.mp h;have:=layT_of (life:=s.heap.life) (pre:=[]) h1 rfl (by rfl);simp only [Nat.zero_add,List.nil_append,Array.length_toList,Array.toArray_toList] at this;unfold SharedT.abs;dsimp only;rw [this]
noncomputable def JN (stp:SharedT->Thread->Option (SharedT×Thread)) (thr:Thread->Bool) (okk:Nat->Option Value->Thread->Bool) (p:Program) (N:Nat) (s₀:Shared):Option Shared:=
  match s₀.heap.isNs mainGlobals&&s₀.gens.size==0 with
  | true=>((toT s₀).bind λsT=>UQ stp thr (okk s₀.heap.objs.size (s₀.heap.nsMap mainGlobals "__annotations__")) N sT (topStub p)).bind λs₁=>
    match staticsOk (importedModules p.main.body) s₀.heap s₁.abs.heap&&namesBound p s₁.abs.heap&&gensDone s₁.abs&&laidKept s₀.heap s₁.abs.heap with
      | true=>some s₁.abs
      | false=>none
  | false=>none
theorem Qz {tb:String->Option Builtin} {p:Program} {w:World} {N:Nat} {s₀ s:Shared} (h:JN (stepT (denote tb) p w) through stepOk p N s₀=some s):topFrom tb p w N s₀=some s:=by
  unfold JN at h;unfold topFrom;(set_option tactic.hygienic true in split at h)
  · rename_i hg;rw [hg];dsimp only;obtain ⟨s₁,h1,h2⟩:=Option.bind_eq_some_iff.mp h;obtain ⟨sT,h3,h4⟩:=Option.bind_eq_some_iff.mp h1;have e:=toT_of h3;have r:=runTT_of h4;rw [e] at r;rw [r];exact h2
  · cases h
theorem fastEnds {β:Type} {tb:String->Option Builtin} {p:Program} {w:World} {N:Nat} {f:Shared->β} {b:β}
    (h:Option.map f ((fencedOpening tb p w N).bind (JN (stepT (denote tb) p w) through stepOk p N))=some b):Option.map f (openEnds tb p w N)=some b:=by
  obtain ⟨s,h1,h2⟩:=Option.map_eq_some_iff.mp h;obtain ⟨s₀,h3,h4⟩:=Option.bind_eq_some_iff.mp h1;unfold openEnds;rw [h3,Option.bind_some,Qz h4];simp [h2]
set_option genSizeOf false
set_option genInjectivity false
set_option tactic.hygienic false
def rdNode (k : String) (cs : Array Lean.Syntax) : Lean.Syntax :=
  let nd (k : Lean.Name) (a : String) (cs : Array Lean.Syntax) : Lean.Syntax := .node .none k (if a == "" then cs else #[Lean.mkAtom a] ++ cs)
  let T := `Lean.Parser.Tactic
  let M := `Lean.Parser.Term
  match k.toList with
  | ['{'] => nd (.str T "tacticSeq") "" #[nd (.str T "tacticSeq1Indented") "" #[nd `null "" cs]]
  | ['['] => nd (.str M "app") "" #[cs[0]!, nd `null "" (cs.extract 1 cs.size)]
  | ['r'] => nd (.str T "refine") "refine" cs
  | ['e'] => nd (.str T "exact") "exact" cs
  | ['w'] => nd (.str T "withReducible") "with_reducible" cs
  | ['y'] => nd (.str M "byTactic") "by" cs
  | ['n'] => nd `null "" cs
  | ['p'] => nd (.str T "paren") "(" (cs.push (Lean.mkAtom ")"))
  | ['t'] => nd (.str T "tacticTry_") "try" cs
  | ['f'] => nd (.str T "failIfSuccess") "fail_if_success" cs
  | ['c'] => nd (.str T "case") "case" #[nd `null "" #[nd (.str T "caseArg") "" #[nd `Lean.binderIdent "" #[cs[0]!], nd `null "" #[]]], Lean.mkAtom "=>", cs[1]!]
  | 'T' :: '.' :: r => nd (.str T (String.ofList r)) "" cs
  | 'M' :: '.' :: r => nd (.str M (String.ofList r)) "" cs
  | _ => nd k.toName "" cs
def rdPush (x : Lean.Syntax) : List (String × Array Lean.Syntax) → List (String × Array Lean.Syntax)
  | (k, cs) :: q => (k, cs.push x) :: q
  | [] => []
def rdShut : List (String × Array Lean.Syntax) → List (String × Array Lean.Syntax)
  | (k, cs) :: q => rdPush (rdNode k cs) q
  | [] => []
def rdStep (f : Lean.Name → Lean.Name) (as : Array Lean.Syntax) (st : List (String × Array Lean.Syntax)) (t : String) : List (String × Array Lean.Syntax) :=
  match t.toList with
  | ['{'] | ['['] => (t, #[]) :: st
  | ['}'] | [']'] | [')'] => rdShut st
  | '(' :: r => (String.ofList r, #[]) :: st
  | '#' :: r => rdPush (Lean.mkIdent (String.ofList r).toName) st
  | '$' :: r => rdPush as[(String.ofList r).toNat!]! st
  | ['_'] => rdPush (rdNode "M.hole" #[Lean.mkAtom "_"]) st
  | '?' :: r => rdPush (rdNode "M.syntheticHole" #[Lean.mkAtom "?", if r == ['_'] then Lean.mkAtom "_" else Lean.mkIdent (f (String.ofList r).toName)]) st
  | '&' :: r => rdPush (Lean.mkIdent (f (String.ofList r).toName)) st
  | '\'' :: r => rdPush (Lean.mkAtom (String.ofList r)) st
  | _ => rdPush (Lean.mkAtom t) st
def rd (as : Array Lean.Syntax) (s : String) (f : Lean.Name → Lean.Name := id) : Lean.Syntax :=
  match (s.splitOn " ").foldl (rdStep f as) [("", #[])] with
  | (_, cs) :: _ => cs[0]!
  | [] => .missing
def rdIds (s : String) : Array Lean.Syntax := (s.splitOn " ").toArray.map fun n => Lean.mkIdent n.toName
def rdM (s : String) (l : Array Lean.Syntax) (f : Lean.Name → Lean.Name := id) : Array Lean.Syntax := l.map fun x => rd #[x] s f
def rdS (ts : Array Lean.Syntax) : Lean.Syntax := rdNode "{" (Lean.mkSepArray ts (Lean.mkAtom ";"))
def rdF (l : Array Lean.Syntax) : Lean.Syntax := rdNode "T.first" #[Lean.mkAtom "first", rdNode "n" (l.map fun s => rdNode "group" #[Lean.mkAtom "|", s])]
def rdNew : Lean.MacroM (Lean.Name → Lean.Name) := do
  let v := Lean.extractMacroScopes (← Lean.Macro.addMacroScope `x)
  return fun n => { v with name := n }.review
def rdBar (s : Lean.Syntax) : Nat → Bool
  | 0 => true
  | f + 1 => match s with
    | .atom _ v => v == "|" || v == ":"
    | .node _ _ as => as.any fun a => rdBar a f
    | _ => false
theorem isEq {α:Sort _} {a b:α} {G:Prop} (_:a=b) (g:G):G:=g
@[elab_as_elim] theorem sbs {α:Sort _} {p:α->Prop} {a b:α} (h:a=b) (k:p a):p b:=h▸k
theorem e0a2 {A B:Prop} {Q:Prop} (h:A/\B) (k:A->B->Q):Q:=k h.1 h.2
theorem i0a2 {A B:Prop} (h0:A) (h1:B):A/\B:=⟨h0,h1⟩
theorem e0a3 {A B C:Prop} {Q:Prop} (h:A/\B/\C) (k:A->B->C->Q):Q:=e0a2 h λh0 x=>k h0 x.1 x.2
theorem i0a3 {A B C:Prop} (h0:A) (h1:B) (h2:C):A/\B/\C:=i0a2 h0 ⟨h1,h2⟩
theorem e0a4 {A B C D:Prop} {Q:Prop} (h:A/\B/\C/\D) (k:A->B->C->D->Q):Q:=e0a3 h λh0 h1 x=>k h0 h1 x.1 x.2
theorem i0a4 {A B C D:Prop} (h0:A) (h1:B) (h2:C) (h3:D):A/\B/\C/\D:=i0a3 h0 h1 ⟨h2,h3⟩
theorem e0a5 {A B C D E:Prop} {Q:Prop} (h:A/\B/\C/\D/\E) (k:A->B->C->D->E->Q):Q:=e0a4 h λh0 h1 h2 x=>k h0 h1 h2 x.1 x.2
theorem i0a5 {A B C D E:Prop} (h0:A) (h1:B) (h2:C) (h3:D) (h4:E):A/\B/\C/\D/\E:=i0a4 h0 h1 h2 ⟨h3,h4⟩
theorem e0a6 {A B C D E F:Prop} {Q:Prop} (h:A/\B/\C/\D/\E/\F) (k:A->B->C->D->E->F->Q):Q:=e0a5 h λh0 h1 h2 h3 x=>k h0 h1 h2 h3 x.1 x.2
theorem i0a6 {A B C D E F:Prop} (h0:A) (h1:B) (h2:C) (h3:D) (h4:E) (h5:F):A/\B/\C/\D/\E/\F:=i0a5 h0 h1 h2 h3 ⟨h4,h5⟩
theorem e1a1 {α:Sort _} {A:α->Prop} {Q:Prop} (h:∃a,A a) (k:∀a,A a->Q):Q:=h.elim λa h=>k a h
theorem i1a1 {α:Sort _} {A:α->Prop} (a:α) (h0:A a):∃a,A a:=⟨a,h0⟩
theorem e1a2 {α:Sort _} {A B:α->Prop} {Q:Prop} (h:∃a,A a/\B a) (k:∀a,A a->B a->Q):Q:=e1a1 h λa  x=>k a  x.1 x.2
theorem i1a2 {α:Sort _} {A B:α->Prop} (a:α) (h0:A a) (h1:B a):∃a,A a/\B a:=i1a1 a  ⟨h0,h1⟩
theorem e1a3 {α:Sort _} {A B C:α->Prop} {Q:Prop} (h:∃a,A a/\B a/\C a) (k:∀a,A a->B a->C a->Q):Q:=e1a2 h λa h0 x=>k a h0 x.1 x.2
theorem i1a3 {α:Sort _} {A B C:α->Prop} (a:α) (h0:A a) (h1:B a) (h2:C a):∃a,A a/\B a/\C a:=i1a2 a h0 ⟨h1,h2⟩
theorem e1a4 {α:Sort _} {A B C D:α->Prop} {Q:Prop} (h:∃a,A a/\B a/\C a/\D a) (k:∀a,A a->B a->C a->D a->Q):Q:=e1a3 h λa h0 h1 x=>k a h0 h1 x.1 x.2
theorem i1a4 {α:Sort _} {A B C D:α->Prop} (a:α) (h0:A a) (h1:B a) (h2:C a) (h3:D a):∃a,A a/\B a/\C a/\D a:=i1a3 a h0 h1 ⟨h2,h3⟩
theorem e1a5 {α:Sort _} {A B C D E:α->Prop} {Q:Prop} (h:∃a,A a/\B a/\C a/\D a/\E a) (k:∀a,A a->B a->C a->D a->E a->Q):Q:=e1a4 h λa h0 h1 h2 x=>k a h0 h1 h2 x.1 x.2
theorem i1a5 {α:Sort _} {A B C D E:α->Prop} (a:α) (h0:A a) (h1:B a) (h2:C a) (h3:D a) (h4:E a):∃a,A a/\B a/\C a/\D a/\E a:=i1a4 a h0 h1 h2 ⟨h3,h4⟩
theorem e1a6 {α:Sort _} {A B C D E F:α->Prop} {Q:Prop} (h:∃a,A a/\B a/\C a/\D a/\E a/\F a) (k:∀a,A a->B a->C a->D a->E a->F a->Q):Q:=e1a5 h λa h0 h1 h2 h3 x=>k a h0 h1 h2 h3 x.1 x.2
theorem i1a6 {α:Sort _} {A B C D E F:α->Prop} (a:α) (h0:A a) (h1:B a) (h2:C a) (h3:D a) (h4:E a) (h5:F a):∃a,A a/\B a/\C a/\D a/\E a/\F a:=i1a5 a h0 h1 h2 h3 ⟨h4,h5⟩
theorem e2a1 {α:Sort _} {β:Sort _} {A:α->β->Prop} {Q:Prop} (h:∃a b,A a b) (k:∀a b,A a b->Q):Q:=h.elim λa h=>h.elim λb h=>k a b h
theorem i2a1 {α:Sort _} {β:Sort _} {A:α->β->Prop} (a:α) (b:β) (h0:A a b):∃a b,A a b:=⟨a,b,h0⟩
theorem e2a2 {α:Sort _} {β:Sort _} {A B:α->β->Prop} {Q:Prop} (h:∃a b,A a b/\B a b) (k:∀a b,A a b->B a b->Q):Q:=e2a1 h λa b  x=>k a b  x.1 x.2
theorem i2a2 {α:Sort _} {β:Sort _} {A B:α->β->Prop} (a:α) (b:β) (h0:A a b) (h1:B a b):∃a b,A a b/\B a b:=i2a1 a b  ⟨h0,h1⟩
theorem e2a3 {α:Sort _} {β:Sort _} {A B C:α->β->Prop} {Q:Prop} (h:∃a b,A a b/\B a b/\C a b) (k:∀a b,A a b->B a b->C a b->Q):Q:=e2a2 h λa b h0 x=>k a b h0 x.1 x.2
theorem i2a3 {α:Sort _} {β:Sort _} {A B C:α->β->Prop} (a:α) (b:β) (h0:A a b) (h1:B a b) (h2:C a b):∃a b,A a b/\B a b/\C a b:=i2a2 a b h0 ⟨h1,h2⟩
theorem e2a4 {α:Sort _} {β:Sort _} {A B C D:α->β->Prop} {Q:Prop} (h:∃a b,A a b/\B a b/\C a b/\D a b) (k:∀a b,A a b->B a b->C a b->D a b->Q):Q:=e2a3 h λa b h0 h1 x=>k a b h0 h1 x.1 x.2
theorem i2a4 {α:Sort _} {β:Sort _} {A B C D:α->β->Prop} (a:α) (b:β) (h0:A a b) (h1:B a b) (h2:C a b) (h3:D a b):∃a b,A a b/\B a b/\C a b/\D a b:=i2a3 a b h0 h1 ⟨h2,h3⟩
theorem e2a5 {α:Sort _} {β:Sort _} {A B C D E:α->β->Prop} {Q:Prop} (h:∃a b,A a b/\B a b/\C a b/\D a b/\E a b) (k:∀a b,A a b->B a b->C a b->D a b->E a b->Q):Q:=e2a4 h λa b h0 h1 h2 x=>k a b h0 h1 h2 x.1 x.2
theorem i2a5 {α:Sort _} {β:Sort _} {A B C D E:α->β->Prop} (a:α) (b:β) (h0:A a b) (h1:B a b) (h2:C a b) (h3:D a b) (h4:E a b):∃a b,A a b/\B a b/\C a b/\D a b/\E a b:=i2a4 a b h0 h1 h2 ⟨h3,h4⟩
theorem i2a6 {α:Sort _} {β:Sort _} {A B C D E F:α->β->Prop} (a:α) (b:β) (h0:A a b) (h1:B a b) (h2:C a b) (h3:D a b) (h4:E a b) (h5:F a b):∃a b,A a b/\B a b/\C a b/\D a b/\E a b/\F a b:=i2a5 a b h0 h1 h2 h3 ⟨h4,h5⟩
theorem e3a1 {α:Sort _} {β:Sort _} {γ:Sort _} {A:α->β->γ->Prop} {Q:Prop} (h:∃a b c,A a b c) (k:∀a b c,A a b c->Q):Q:=h.elim λa h=>h.elim λb h=>h.elim λc h=>k a b c h
theorem i3a1 {α:Sort _} {β:Sort _} {γ:Sort _} {A:α->β->γ->Prop} (a:α) (b:β) (c:γ) (h0:A a b c):∃a b c,A a b c:=⟨a,b,c,h0⟩
theorem e3a2 {α:Sort _} {β:Sort _} {γ:Sort _} {A B:α->β->γ->Prop} {Q:Prop} (h:∃a b c,A a b c/\B a b c) (k:∀a b c,A a b c->B a b c->Q):Q:=e3a1 h λa b c  x=>k a b c  x.1 x.2
theorem i3a2 {α:Sort _} {β:Sort _} {γ:Sort _} {A B:α->β->γ->Prop} (a:α) (b:β) (c:γ) (h0:A a b c) (h1:B a b c):∃a b c,A a b c/\B a b c:=i3a1 a b c  ⟨h0,h1⟩
theorem e3a3 {α:Sort _} {β:Sort _} {γ:Sort _} {A B C:α->β->γ->Prop} {Q:Prop} (h:∃a b c,A a b c/\B a b c/\C a b c) (k:∀a b c,A a b c->B a b c->C a b c->Q):Q:=e3a2 h λa b c h0 x=>k a b c h0 x.1 x.2
theorem i3a3 {α:Sort _} {β:Sort _} {γ:Sort _} {A B C:α->β->γ->Prop} (a:α) (b:β) (c:γ) (h0:A a b c) (h1:B a b c) (h2:C a b c):∃a b c,A a b c/\B a b c/\C a b c:=i3a2 a b c h0 ⟨h1,h2⟩
theorem e3a4 {α:Sort _} {β:Sort _} {γ:Sort _} {A B C D:α->β->γ->Prop} {Q:Prop} (h:∃a b c,A a b c/\B a b c/\C a b c/\D a b c) (k:∀a b c,A a b c->B a b c->C a b c->D a b c->Q):Q:=e3a3 h λa b c h0 h1 x=>k a b c h0 h1 x.1 x.2
theorem i3a4 {α:Sort _} {β:Sort _} {γ:Sort _} {A B C D:α->β->γ->Prop} (a:α) (b:β) (c:γ) (h0:A a b c) (h1:B a b c) (h2:C a b c) (h3:D a b c):∃a b c,A a b c/\B a b c/\C a b c/\D a b c:=i3a3 a b c h0 h1 ⟨h2,h3⟩
theorem e3a5 {α:Sort _} {β:Sort _} {γ:Sort _} {A B C D E:α->β->γ->Prop} {Q:Prop} (h:∃a b c,A a b c/\B a b c/\C a b c/\D a b c/\E a b c) (k:∀a b c,A a b c->B a b c->C a b c->D a b c->E a b c->Q):Q:=e3a4 h λa b c h0 h1 h2 x=>k a b c h0 h1 h2 x.1 x.2
theorem i3a5 {α:Sort _} {β:Sort _} {γ:Sort _} {A B C D E:α->β->γ->Prop} (a:α) (b:β) (c:γ) (h0:A a b c) (h1:B a b c) (h2:C a b c) (h3:D a b c) (h4:E a b c):∃a b c,A a b c/\B a b c/\C a b c/\D a b c/\E a b c:=i3a4 a b c h0 h1 h2 ⟨h3,h4⟩
theorem e3a6 {α:Sort _} {β:Sort _} {γ:Sort _} {A B C D E F:α->β->γ->Prop} {Q:Prop} (h:∃a b c,A a b c/\B a b c/\C a b c/\D a b c/\E a b c/\F a b c) (k:∀a b c,A a b c->B a b c->C a b c->D a b c->E a b c->F a b c->Q):Q:=e3a5 h λa b c h0 h1 h2 h3 x=>k a b c h0 h1 h2 h3 x.1 x.2
theorem i3a6 {α:Sort _} {β:Sort _} {γ:Sort _} {A B C D E F:α->β->γ->Prop} (a:α) (b:β) (c:γ) (h0:A a b c) (h1:B a b c) (h2:C a b c) (h3:D a b c) (h4:E a b c) (h5:F a b c):∃a b c,A a b c/\B a b c/\C a b c/\D a b c/\E a b c/\F a b c:=i3a5 a b c h0 h1 h2 h3 ⟨h4,h5⟩
theorem e3a7 {α:Sort _} {β:Sort _} {γ:Sort _} {A B C D E F G:α->β->γ->Prop} {Q:Prop} (h:∃a b c,A a b c/\B a b c/\C a b c/\D a b c/\E a b c/\F a b c/\G a b c) (k:∀a b c,A a b c->B a b c->C a b c->D a b c->E a b c->F a b c->G a b c->Q):Q:=e3a6 h λa b c h0 h1 h2 h3 h4 x=>k a b c h0 h1 h2 h3 h4 x.1 x.2
theorem i3a7 {α:Sort _} {β:Sort _} {γ:Sort _} {A B C D E F G:α->β->γ->Prop} (a:α) (b:β) (c:γ) (h0:A a b c) (h1:B a b c) (h2:C a b c) (h3:D a b c) (h4:E a b c) (h5:F a b c) (h6:G a b c):∃a b c,A a b c/\B a b c/\C a b c/\D a b c/\E a b c/\F a b c/\G a b c:=i3a6 a b c h0 h1 h2 h3 h4 ⟨h5,h6⟩
theorem e3a8 {α:Sort _} {β:Sort _} {γ:Sort _} {A B C D E F G H:α->β->γ->Prop} {Q:Prop} (h:∃a b c,A a b c/\B a b c/\C a b c/\D a b c/\E a b c/\F a b c/\G a b c/\H a b c) (k:∀a b c,A a b c->B a b c->C a b c->D a b c->E a b c->F a b c->G a b c->H a b c->Q):Q:=e3a7 h λa b c h0 h1 h2 h3 h4 h5 x=>k a b c h0 h1 h2 h3 h4 h5 x.1 x.2
theorem i3a8 {α:Sort _} {β:Sort _} {γ:Sort _} {A B C D E F G H:α->β->γ->Prop} (a:α) (b:β) (c:γ) (h0:A a b c) (h1:B a b c) (h2:C a b c) (h3:D a b c) (h4:E a b c) (h5:F a b c) (h6:G a b c) (h7:H a b c):∃a b c,A a b c/\B a b c/\C a b c/\D a b c/\E a b c/\F a b c/\G a b c/\H a b c:=i3a7 a b c h0 h1 h2 h3 h4 h5 ⟨h6,h7⟩
theorem e4a1 {α:Sort _} {β:Sort _} {γ:Sort _} {δ:Sort _} {A:α->β->γ->δ->Prop} {Q:Prop} (h:∃a b c d,A a b c d) (k:∀a b c d,A a b c d->Q):Q:=h.elim λa h=>h.elim λb h=>h.elim λc h=>h.elim λd h=>k a b c d h
theorem i4a1 {α:Sort _} {β:Sort _} {γ:Sort _} {δ:Sort _} {A:α->β->γ->δ->Prop} (a:α) (b:β) (c:γ) (d:δ) (h0:A a b c d):∃a b c d,A a b c d:=⟨a,b,c,d,h0⟩
theorem e4a2 {α:Sort _} {β:Sort _} {γ:Sort _} {δ:Sort _} {A B:α->β->γ->δ->Prop} {Q:Prop} (h:∃a b c d,A a b c d/\B a b c d) (k:∀a b c d,A a b c d->B a b c d->Q):Q:=e4a1 h λa b c d  x=>k a b c d  x.1 x.2
theorem i4a2 {α:Sort _} {β:Sort _} {γ:Sort _} {δ:Sort _} {A B:α->β->γ->δ->Prop} (a:α) (b:β) (c:γ) (d:δ) (h0:A a b c d) (h1:B a b c d):∃a b c d,A a b c d/\B a b c d:=i4a1 a b c d  ⟨h0,h1⟩
theorem e4a3 {α:Sort _} {β:Sort _} {γ:Sort _} {δ:Sort _} {A B C:α->β->γ->δ->Prop} {Q:Prop} (h:∃a b c d,A a b c d/\B a b c d/\C a b c d) (k:∀a b c d,A a b c d->B a b c d->C a b c d->Q):Q:=e4a2 h λa b c d h0 x=>k a b c d h0 x.1 x.2
theorem i4a3 {α:Sort _} {β:Sort _} {γ:Sort _} {δ:Sort _} {A B C:α->β->γ->δ->Prop} (a:α) (b:β) (c:γ) (d:δ) (h0:A a b c d) (h1:B a b c d) (h2:C a b c d):∃a b c d,A a b c d/\B a b c d/\C a b c d:=i4a2 a b c d h0 ⟨h1,h2⟩
theorem e4a4 {α:Sort _} {β:Sort _} {γ:Sort _} {δ:Sort _} {A B C D:α->β->γ->δ->Prop} {Q:Prop} (h:∃a b c d,A a b c d/\B a b c d/\C a b c d/\D a b c d) (k:∀a b c d,A a b c d->B a b c d->C a b c d->D a b c d->Q):Q:=e4a3 h λa b c d h0 h1 x=>k a b c d h0 h1 x.1 x.2
theorem i4a4 {α:Sort _} {β:Sort _} {γ:Sort _} {δ:Sort _} {A B C D:α->β->γ->δ->Prop} (a:α) (b:β) (c:γ) (d:δ) (h0:A a b c d) (h1:B a b c d) (h2:C a b c d) (h3:D a b c d):∃a b c d,A a b c d/\B a b c d/\C a b c d/\D a b c d:=i4a3 a b c d h0 h1 ⟨h2,h3⟩
theorem e4a5 {α:Sort _} {β:Sort _} {γ:Sort _} {δ:Sort _} {A B C D E:α->β->γ->δ->Prop} {Q:Prop} (h:∃a b c d,A a b c d/\B a b c d/\C a b c d/\D a b c d/\E a b c d) (k:∀a b c d,A a b c d->B a b c d->C a b c d->D a b c d->E a b c d->Q):Q:=e4a4 h λa b c d h0 h1 h2 x=>k a b c d h0 h1 h2 x.1 x.2
theorem i4a5 {α:Sort _} {β:Sort _} {γ:Sort _} {δ:Sort _} {A B C D E:α->β->γ->δ->Prop} (a:α) (b:β) (c:γ) (d:δ) (h0:A a b c d) (h1:B a b c d) (h2:C a b c d) (h3:D a b c d) (h4:E a b c d):∃a b c d,A a b c d/\B a b c d/\C a b c d/\D a b c d/\E a b c d:=i4a4 a b c d h0 h1 h2 ⟨h3,h4⟩
theorem i4a6 {α:Sort _} {β:Sort _} {γ:Sort _} {δ:Sort _} {A B C D E F:α->β->γ->δ->Prop} (a:α) (b:β) (c:γ) (d:δ) (h0:A a b c d) (h1:B a b c d) (h2:C a b c d) (h3:D a b c d) (h4:E a b c d) (h5:F a b c d):∃a b c d,A a b c d/\B a b c d/\C a b c d/\D a b c d/\E a b c d/\F a b c d:=i4a5 a b c d h0 h1 h2 h3 ⟨h4,h5⟩
theorem i4a7 {α:Sort _} {β:Sort _} {γ:Sort _} {δ:Sort _} {A B C D E F G:α->β->γ->δ->Prop} (a:α) (b:β) (c:γ) (d:δ) (h0:A a b c d) (h1:B a b c d) (h2:C a b c d) (h3:D a b c d) (h4:E a b c d) (h5:F a b c d) (h6:G a b c d):∃a b c d,A a b c d/\B a b c d/\C a b c d/\D a b c d/\E a b c d/\F a b c d/\G a b c d:=i4a6 a b c d h0 h1 h2 h3 h4 ⟨h5,h6⟩
theorem i5a1 {α:Sort _} {β:Sort _} {γ:Sort _} {δ:Sort _} {ε:Sort _} {A:α->β->γ->δ->ε->Prop} (a:α) (b:β) (c:γ) (d:δ) (e:ε) (h0:A a b c d e):∃a b c d e,A a b c d e:=⟨a,b,c,d,e,h0⟩
theorem i5a2 {α:Sort _} {β:Sort _} {γ:Sort _} {δ:Sort _} {ε:Sort _} {A B:α->β->γ->δ->ε->Prop} (a:α) (b:β) (c:γ) (d:δ) (e:ε) (h0:A a b c d e) (h1:B a b c d e):∃a b c d e,A a b c d e/\B a b c d e:=i5a1 a b c d e  ⟨h0,h1⟩
theorem i5a3 {α:Sort _} {β:Sort _} {γ:Sort _} {δ:Sort _} {ε:Sort _} {A B C:α->β->γ->δ->ε->Prop} (a:α) (b:β) (c:γ) (d:δ) (e:ε) (h0:A a b c d e) (h1:B a b c d e) (h2:C a b c d e):∃a b c d e,A a b c d e/\B a b c d e/\C a b c d e:=i5a2 a b c d e h0 ⟨h1,h2⟩
theorem i5a4 {α:Sort _} {β:Sort _} {γ:Sort _} {δ:Sort _} {ε:Sort _} {A B C D:α->β->γ->δ->ε->Prop} (a:α) (b:β) (c:γ) (d:δ) (e:ε) (h0:A a b c d e) (h1:B a b c d e) (h2:C a b c d e) (h3:D a b c d e):∃a b c d e,A a b c d e/\B a b c d e/\C a b c d e/\D a b c d e:=i5a3 a b c d e h0 h1 ⟨h2,h3⟩
theorem i5a5 {α:Sort _} {β:Sort _} {γ:Sort _} {δ:Sort _} {ε:Sort _} {A B C D E:α->β->γ->δ->ε->Prop} (a:α) (b:β) (c:γ) (d:δ) (e:ε) (h0:A a b c d e) (h1:B a b c d e) (h2:C a b c d e) (h3:D a b c d e) (h4:E a b c d e):∃a b c d e,A a b c d e/\B a b c d e/\C a b c d e/\D a b c d e/\E a b c d e:=i5a4 a b c d e h0 h1 h2 ⟨h3,h4⟩
inductive E2 {α β:Type} (p:α->β->Prop):Prop where
  | mk (x0:α) (x1:β) (h:p x0 x1):E2 p
inductive E3 {α β γ:Type} (p:α->β->γ->Prop):Prop where
  | mk (x0:α) (x1:β) (x2:γ) (h:p x0 x1 x2):E3 p
inductive E4 {α β γ δ:Type} (p:α->β->γ->δ->Prop):Prop where
  | mk (x0:α) (x1:β) (x2:γ) (x3:δ) (h:p x0 x1 x2 x3):E4 p
inductive E5 {α β γ δ ε:Type} (p:α->β->γ->δ->ε->Prop):Prop where
  | mk (x0:α) (x1:β) (x2:γ) (x3:δ) (x4:ε) (h:p x0 x1 x2 x3 x4):E5 p
inductive E6 {α β γ δ ε ζ:Type} (p:α->β->γ->δ->ε->ζ->Prop):Prop where
  | mk (x0:α) (x1:β) (x2:γ) (x3:δ) (x4:ε) (x5:ζ) (h:p x0 x1 x2 x3 x4 x5):E6 p
inductive E7 {α β γ δ ε ζ η:Type} (p:α->β->γ->δ->ε->ζ->η->Prop):Prop where
  | mk (x0:α) (x1:β) (x2:γ) (x3:δ) (x4:ε) (x5:ζ) (x6:η) (h:p x0 x1 x2 x3 x4 x5 x6):E7 p
inductive E9 {α β γ δ ε ζ η θ ι:Type} (p:α->β->γ->δ->ε->ζ->η->θ->ι->Prop):Prop where
  | mk (x0:α) (x1:β) (x2:γ) (x3:δ) (x4:ε) (x5:ζ) (x6:η) (x7:θ) (x8:ι) (h:p x0 x1 x2 x3 x4 x5 x6 x7 x8):E9 p
inductive E10 {α β γ δ ε ζ η θ ι κ:Type} (p:α->β->γ->δ->ε->ζ->η->θ->ι->κ->Prop):Prop where
  | mk (x0:α) (x1:β) (x2:γ) (x3:δ) (x4:ε) (x5:ζ) (x6:η) (x7:θ) (x8:ι) (x9:κ) (h:p x0 x1 x2 x3 x4 x5 x6 x7 x8 x9):E10 p
inductive E11 {α β γ δ ε ζ η θ ι κ μ:Type} (p:α->β->γ->δ->ε->ζ->η->θ->ι->κ->μ->Prop):Prop where
  | mk (x0:α) (x1:β) (x2:γ) (x3:δ) (x4:ε) (x5:ζ) (x6:η) (x7:θ) (x8:ι) (x9:κ) (x10:μ) (h:p x0 x1 x2 x3 x4 x5 x6 x7 x8 x9 x10):E11 p
inductive E12 {α β γ δ ε ζ η θ ι κ μ ν:Type} (p:α->β->γ->δ->ε->ζ->η->θ->ι->κ->μ->ν->Prop):Prop where
  | mk (x0:α) (x1:β) (x2:γ) (x3:δ) (x4:ε) (x5:ζ) (x6:η) (x7:θ) (x8:ι) (x9:κ) (x10:μ) (x11:ν) (h:p x0 x1 x2 x3 x4 x5 x6 x7 x8 x9 x10 x11):E12 p
inductive A3 (a0 a1 a2:Prop):Prop where
  | mk (h0:a0) (h1:a1) (h2:a2):A3 a0 a1 a2
inductive A4 (a0 a1 a2 a3:Prop):Prop where
  | mk (h0:a0) (h1:a1) (h2:a2) (h3:a3):A4 a0 a1 a2 a3
inductive A5 (a0 a1 a2 a3 a4:Prop):Prop where
  | mk (h0:a0) (h1:a1) (h2:a2) (h3:a3) (h4:a4):A5 a0 a1 a2 a3 a4
inductive A6 (a0 a1 a2 a3 a4 a5:Prop):Prop where
  | mk (h0:a0) (h1:a1) (h2:a2) (h3:a3) (h4:a4) (h5:a5):A6 a0 a1 a2 a3 a4 a5
inductive A7 (a0 a1 a2 a3 a4 a5 a6:Prop):Prop where
  | mk (h0:a0) (h1:a1) (h2:a2) (h3:a3) (h4:a4) (h5:a5) (h6:a6):A7 a0 a1 a2 a3 a4 a5 a6
inductive A8 (a0 a1 a2 a3 a4 a5 a6 a7:Prop):Prop where
  | mk (h0:a0) (h1:a1) (h2:a2) (h3:a3) (h4:a4) (h5:a5) (h6:a6) (h7:a7):A8 a0 a1 a2 a3 a4 a5 a6 a7
inductive A9 (a0 a1 a2 a3 a4 a5 a6 a7 a8:Prop):Prop where
  | mk (h0:a0) (h1:a1) (h2:a2) (h3:a3) (h4:a4) (h5:a5) (h6:a6) (h7:a7) (h8:a8):A9 a0 a1 a2 a3 a4 a5 a6 a7 a8
inductive A10 (a0 a1 a2 a3 a4 a5 a6 a7 a8 a9:Prop):Prop where
  | mk (h0:a0) (h1:a1) (h2:a2) (h3:a3) (h4:a4) (h5:a5) (h6:a6) (h7:a7) (h8:a8) (h9:a9):A10 a0 a1 a2 a3 a4 a5 a6 a7 a8 a9
inductive A12 (a0 a1 a2 a3 a4 a5 a6 a7 a8 a9 a10 a11:Prop):Prop where
  | mk (h0:a0) (h1:a1) (h2:a2) (h3:a3) (h4:a4) (h5:a5) (h6:a6) (h7:a7) (h8:a8) (h9:a9) (h10:a10) (h11:a11):A12 a0 a1 a2 a3 a4 a5 a6 a7 a8 a9 a10 a11
inductive A13 (a0 a1 a2 a3 a4 a5 a6 a7 a8 a9 a10 a11 a12:Prop):Prop where
  | mk (h0:a0) (h1:a1) (h2:a2) (h3:a3) (h4:a4) (h5:a5) (h6:a6) (h7:a7) (h8:a8) (h9:a9) (h10:a10) (h11:a11) (h12:a12):A13 a0 a1 a2 a3 a4 a5 a6 a7 a8 a9 a10 a11 a12
inductive A17 (a0 a1 a2 a3 a4 a5 a6 a7 a8 a9 a10 a11 a12 a13 a14 a15 a16:Prop):Prop where
  | mk (h0:a0) (h1:a1) (h2:a2) (h3:a3) (h4:a4) (h5:a5) (h6:a6) (h7:a7) (h8:a8) (h9:a9) (h10:a10) (h11:a11) (h12:a12) (h13:a13) (h14:a14) (h15:a15) (h16:a16):A17 a0 a1 a2 a3 a4 a5 a6 a7 a8 a9 a10 a11 a12 a13 a14 a15 a16
inductive A20 (a0 a1 a2 a3 a4 a5 a6 a7 a8 a9 a10 a11 a12 a13 a14 a15 a16 a17 a18 a19:Prop):Prop where
  | mk (h0:a0) (h1:a1) (h2:a2) (h3:a3) (h4:a4) (h5:a5) (h6:a6) (h7:a7) (h8:a8) (h9:a9) (h10:a10) (h11:a11) (h12:a12) (h13:a13) (h14:a14) (h15:a15) (h16:a16) (h17:a17) (h18:a18) (h19:a19):A20 a0 a1 a2 a3 a4 a5 a6 a7 a8 a9 a10 a11 a12 a13 a14 a15 a16 a17 a18 a19
set_option genInjectivity true
noncomputable def Srt (xs:Array Nat):Prop:=∀i j:Nat,i<j->∀(hj:j<xs.size) (hi:i<xs.size),xs[i]<xs[j]
structure TOk (t:SetTable):Prop where
  srt:Srt t.place
  dum:t.dummies=#[]
noncomputable def JV:Value->Int
  | .int i _=>i
  | _=>0
noncomputable def Yk (es:Array (Int×Value)):List Int:=es.toList.map λe=>JV e.2
noncomputable def Yw (w:World):Bool:=w.params.followText "set-order"
noncomputable def Y1 (prog:Program) (w:World) (h:Heap) (a:Addr) (is:List Int):Prop:=
  ∃es ep t,h.get? a=some { cls:=.type "set",dict:=none,data:=.set es ep t }/\ElemsOf (intKind prog w) es.toList/\(Yk es).Nodup/\(∀k,k∈is ↔ k∈Yk es)/\es.size<scanBound/\t.fits es.size=true/\TOk t/\t.led=!Yw w
theorem Y1.keep {prog:Program} {w:World} {h h':Heap} {a:Addr} {is:List Int} (x:Y1 prog w h a is) (k:∀o,h.get? a=some o->h'.get? a=some o):Y1 prog w h' a is:=
  let ⟨es,ep,t,ho,r⟩:=x;⟨es,ep,t,k _ ho,r⟩
set_option tactic.hygienic false
def keepIdx:List Nat:=[0,2,3,5,6,7,9,10,11,13,15,17,18,19,20,21,22,23]
def view:Program:={ PySem.Challenge.pw_pq0083_01 with main:={ PySem.Challenge.pw_pq0083_01.main with body:=keepIdx.filterMap λi=>PySem.Challenge.pw_pq0083_01.main.body[i]? } }
set_option maxRecDepth 100000 in
theorem said:OpenLaw.wellSaid PySem.Challenge.rw_pq0083_01=true:=by rw [PySem.W.Fast.te9446332074065402090];kernel_rfl
theorem lawR (h:(OpenLaw.row PySem.Challenge.rw_pq0083_01).wellSaid=true->(OpenLaw.row PySem.Challenge.rw_pq0083_01).Holds):OpenLaw.Holds PySem.Challenge.rw_pq0083_01:=holds_law said h
abbrev VX:OpenRow:=OpenLaw.row PySem.Challenge.rw_pq0083_01
abbrev xt:Shared->Bool:=λs=>xlAt view [] s&&recOk (RowW.records (OpenRow.toRowW VX)) s
theorem lawS:(defOf view VX.name).isSome=true:=by kernel_rfl
theorem headR (H:Hook) (hl:LeftO VX.prog view [] xt H.obs H.val 9000) (k1:VX.wellSaid=true) (hw:VX.toRowW.promised) (call:∀d kwd,defOf view VX.name=some (d,kwd)->WalkO view [] (XL view []) H.says VX.toRowW d kwd λf vs=>PySem.call f vs):VX.Holds:=
  PySem.W.holds_open (q:=view) (loose:=[]) (Xt:=xt) (XP:=XL view []) (d:=((defOf view VX.name).get lawS).1) (kwd:=((defOf view VX.name).get lawS).2) hl H.of H.keeps (λs e=>xl_of s (Bool.and_eq_true_iff.mp e).1) XL.keeps (Option.some_get lawS).symm (by kernel_rfl) (by kernel_rfl) (λs e=>recFacts_of (Bool.and_eq_true_iff.mp e).2) (by rfl) k1 (by kernel_rfl) ⟨rfl,rfl,rfl,rfl,rfl,by kernel_rfl⟩ hw (call _ _ (Option.some_get lawS).symm)
theorem headL {α:Type} {q p:Program} {lo im:List Str} {Xt:Shared->Bool} {g0:Bool} {Yf:Shared->α} {w:World} {N:Nat} {b:_}
    (h:Option.map (λs=>(Fast.tw4187177175401517315 q lo im Xt g0 s,Yf s)) (((Fast.tw10274390034422433532 Fast.tw14364793385576792824 (opening p) w N (Fast.tw1435165496053646825 (opening p)).1 (Fast.tw1435165496053646825 (opening p)).2).bind (Fast.tw14289696077712309145 p)).bind (JN (Fast.tw10156331382660048174 (Fast.tw11892475500146522536 Fast.tw14364793385576792824) p w) through Fast.tw6613529449190102663 p N))=some b) :
    Option.map (λs=>(openSeen q lo im Xt g0 s,Yf s)) (openEnds treeTable p w N)=some b:=by
  refine fastEnds ?_;unfold fencedOpening;rw [PySem.W.Fast.te14364793385576792824,PySem.W.Fast.te10274390034422433532,PySem.W.Fast.te1435165496053646825,PySem.W.Fast.te14289696077712309145,PySem.W.Fast.te10156331382660048174,PySem.W.Fast.te11892475500146522536,PySem.W.Fast.te6613529449190102663,PySem.W.Fast.te4187177175401517315];exact h
local macro_rules (kind := PySem.W.tacticO_law) | s => return rd #[] "(r [ #lawR (M.fun 'fun (M.basicFun (n _ ) (n ) '=> ?_ ) ) ] )"
local macro_rules (kind := PySem.W.tacticO_head_) | s => return rd #[s[1]] "(p { (r [ #headR $0 ?hl (y { (T.assumption 'assumption ) } ) ?hw ?hc ] ) ; (c #hl { (T.intro 'intro (n ) ) ; (r [ #headL ?_ ] ) ; (tacticKernel_rfl 'kernel_rfl ) } ) } )"
set_option maxRecDepth 100000 in
set_option maxHeartbeats 8000000 in
open_top hd for PySem.Challenge.rw_pq0083_01
set_option tactic.hygienic false
local macro_rules (kind := Lean.Parser.Tactic.obtain) | s => do
  let p := s[1][0]
  let t := p[0][0]
  let h := s[3][1][0]
  let ps := t[1].getSepArgs
  let m := ps.size
  if s[2].getNumArgs > 0 || !(s[3][1].getNumArgs == 1) || (p[0].getNumArgs != 1 || s[1].getNumArgs != 1) || ps.pop.any (rdBar · 60) || !(t.isOfKind `Lean.Parser.Tactic.rcasesPat.tuple) || m < 2 then Lean.Macro.throwUnsupported
  let ob := "(p { (T.intro 'intro (n #hhx ) ) ; (T.obtain 'obtain (n (T.rcasesPatMed (n $0 ) ) ) (n ) (n ':= (n #hhx ) ) ) ; (t { (T.clear 'clear (n #hhx ) ) } ) } )"
  let one (s : Lean.Syntax) : Lean.Syntax :=
    let q := s[0][0][0]
    if rdBar s 60 then rd #[s] "(T.rintro 'rintro (n (Lean.Parser.Tactic.rintroPat.one (Lean.Parser.Tactic.rcasesPat.paren '( $0 ') ) ) ) (n ) )"
    else if q.isOfKind `Lean.Parser.Tactic.rcasesPat.tuple then rd #[q] ob
    else if q.isOfKind `Lean.Parser.Tactic.rcasesPat.one && !(q[0].getId == `rfl) then rd #[q[0]] "(T.intro 'intro (n $0 ) )"
    else rd #[q] "(T.rintro 'rintro (n (Lean.Parser.Tactic.rintroPat.one $0 ) ) (n ) )"
  let cl := if h.isIdent then #[rd #[h] "(t { (T.clear 'clear (n $0 ) ) } )"] else #[]
  let mut alts := #[]
  for j in [0:m - 1] do
    let mm := m - j
    let tail := if j == 0 then #[] else #[rd #[t.setArg 1 (Lean.mkNullNode (Lean.mkSepArray (ps.extract (mm - 1) m) (Lean.mkAtom ",")))] ob]
    let part := (if j == 0 then ps else ps.extract 0 (mm - 1)).map one
    for n in [0:min 6 mm] do
      let k := mm - n
      if k > 8 || (k < 2 && j > 0) then continue
      alts := alts.push (rdS (#[rd #[Lean.mkIdent (.mkSimple s!"e{n}a{k}"), h] "(r [ $0 $1 ?_ ] )"] ++ cl ++ part ++ tail))
  alts := alts.push (rd #[h, t] "{ (T.rcases 'rcases (n (T.elimTarget (n ) $0 ) ) (n 'with (T.rcasesPatLo (T.rcasesPatMed (n $1 ) ) (n ) ) ) ) }")
  return rdF alts
local macro_rules (kind := Lean.Parser.Tactic.rintro) | s => do
  let isT (q : Lean.Syntax) : Bool := q.isOfKind `Lean.Parser.Tactic.rintroPat.one && q[0].isOfKind `Lean.Parser.Tactic.rcasesPat.tuple
  let qs := s[1].getArgs
  if !(qs.any isT) then Lean.Macro.throwUnsupported
  let ts := qs.map fun q => if isT q then rd #[q[0]] "(p { (T.intro 'intro (n #hhx ) ) ; (T.obtain 'obtain (n (T.rcasesPatMed (n $0 ) ) ) (n ) (n ':= (n #hhx ) ) ) ; (t { (T.clear 'clear (n #hhx ) ) } ) } )" else rd #[q] "(T.rintro 'rintro (n $0 ) (n ) )"
  return rdNode "p" #[rdS ts]
local macro_rules (kind := Lean.Parser.Tactic.refine) | s => do
  let as := s[1][1].getSepArgs
  let m := as.size
  if !(s[1].isOfKind `Lean.Parser.Term.anonymousCtor) || m < 3 then Lean.Macro.throwUnsupported
  let mut alts := #[]
  for j in [0:m - 1] do
    let mm := m - j
    let args := if j == 0 then as else (as.extract 0 (mm - 1)).push (rdNode "M.anonymousCtor" #[Lean.mkAtom "⟨", Lean.mkNullNode (Lean.mkSepArray (as.extract (mm - 1) m) (Lean.mkAtom ",")), Lean.mkAtom "⟩"])
    for n in [0:min 6 mm] do
      let k := mm - n
      if k > 8 || (k < 2 && j > 0) then continue
      let i := Lean.mkIdent (.mkSimple s!"i{n}a{k}")
      alts := alts.push (rd #[i, rdNode "[" (#[i.raw] ++ args)] "{ (f { (f { (T.apply 'apply $0 ) } ) } ) ; (r $1 ) }")
  alts := alts.push (rd #[s[1]] "{ (r (M.paren (M.hygienicLParen '( (hygieneInfo # ) ) $0 ') ) ) }")
  return rdF alts
local macro_rules (kind := Lean.Parser.Tactic.exact) | s => do
  if !(s[1].isOfKind `Lean.Parser.Term.anonymousCtor) || s[1][1].getSepArgs.size < 3 || (s[1].find? fun s => s.isOfKind `Lean.Parser.Term.syntheticHole).isSome then Lean.Macro.throwUnsupported
  return rdNode "r" #[s[1]]
local macro_rules (kind := Lean.Parser.Tactic.cases) | s => do
  let e := s[1][0][1]
  let h := s[1][0][0]
  if !(s[1].getNumArgs == 1) || s[2].getNumArgs > 0 || e.isOfKind `Lean.Parser.Term.paren then Lean.Macro.throwUnsupported
  if s[3].getNumArgs > 0 then
    let c := match (s[3].find? (·.isOfKind `Lean.Parser.Tactic.inductionAltLHS)).bind fun l => l[1].find? (·.isIdent) with | some i => i.getId | none => .anonymous
    let u := if c == `nil || c == `cons then "#List.casesOn" else if c == `zero || c == `succ then "#Nat.casesAuxOn" else ""
    let v := e.isIdent && h.getNumArgs == 0
    let us := if u == "" then rdNode "n" #[] else rd #[] ("(n 'using " ++ u ++ " )")
    let g := if v then #[] else #[rd #[if h.getNumArgs == 0 then h else rdNode "n" #[h[0][0], h[1]], e] "(T.generalize 'generalize (n (T.generalizeArg $0 $1 '= #qq9 ) ) (n ) )"]
    return rdF #[rdS (g.push (rd #[if v then e else Lean.mkIdent `qq9, us, s[3]] "(T.induction 'induction (n (T.elimTarget (n ) $0 ) ) $1 (n ) $2 )")), rd #[s.setArg 1 (rdNode "n" #[s[1][0].setArg 1 (rd #[e] "(M.paren (M.hygienicLParen '( (hygieneInfo # ) ) $0 ') )")])] "{ $0 }"]
  if h.getNumArgs > 0 || !e.isIdent then Lean.Macro.throwUnsupported
  let mut alts := #[rd #[e] "{ (T.subst 'subst (n $0 ) ) }", rd #[e] "{ (T.tacticExfalso 'exfalso ) ; (T.injection 'injection $0 (n ) ) ; (T.done 'done ) }"]
  for j in [0:4] do
    let ns := ((["qq0", "qq1", "qq2", "qq3"].take (4 - j)).toArray.map fun n => (Lean.mkIdent (.mkSimple n)).raw)
    alts := alts.push (rdS (#[rd #[e, rdNode "n" ns] "(T.injection 'injection $0 (n 'with $1 ) )"] ++ rdM "(t { (T.cases 'cases (n (T.elimTarget (n ) $0 ) ) (n ) (n ) ) } )" ns))
  return rdF #[rd #[e, rdF alts] "{ (f { (f { (r [ #isEq $0 ?_ ] ) } ) } ) ; $1 }", rd #[e] "{ (T.rcases 'rcases (n (T.elimTarget (n ) $0 ) ) (n 'with (T.rcasesPatLo (T.rcasesPatMed (n (Lean.Parser.Tactic.rcasesPat.tuple '⟨ (n ) '⟩ ) ) ) (n ) ) ) ) }"]
local macro_rules (kind := Lean.Parser.Tactic.rwSeq) | s => do
  if s[3].getNumArgs > 0 || s[1][0].getNumArgs > 0 then Lean.Macro.throwUnsupported
  let one (r : Lean.Syntax) : Lean.Syntax :=
    let t := r[1]
    let t2 := if t.isIdent then rd #[t] "[ $0 (M.ellipsis '.. ) ]" else if t.isOfKind `Lean.Parser.Term.app then rdNode "[" (#[t[0]] ++ t[1].getArgs.push (rd #[] "(M.ellipsis '.. )")) else t
    rdF #[rd #[Lean.mkIdent (if r[0].getNumArgs > 0 then `Mine.sbs else `Eq.substr), t2] "{ (r [ $0 $1 ?_ ] ) }", rd #[s[1], r] "{ (T.rewriteSeq 'rewrite $0 (T.rwRuleSeq '[ (n $1 ) '] ) (n ) ) }"]
  return rdNode "p" #[rdS ((s[2][1].getSepArgs.map one).push (rd #[] "(t { (w { (T.tacticRfl 'rfl ) } ) } )"))]
local macro_rules (kind := Lean.Parser.Tactic.show) | s => return rd #[s[1]] "(r (M.typeAscription (M.hygienicLParen '( (hygieneInfo # ) ) ?_ ': (n $0 ) ') ) )"
local macro_rules (kind := Lean.Parser.Tactic.lia) | s => return rdF (rdM "{ (w { (e $0 ) } ) }" ((rdM "[ $0 (y { (T.assumption 'assumption ) } ) (y { (T.assumption 'assumption ) } ) ]" (rdIds "Nat.lt_of_lt_of_le Nat.lt_of_le_of_lt Nat.le_trans")) ++ (rdM "[ $0 (y { (T.assumption 'assumption ) } ) ]" (rdIds "Nat.le_of_lt Nat.lt_succ_of_le Nat.le_succ_of_le Nat.le_of_lt_succ")) ++ #[rd #[] "[ #Nat.le_refl _ ]"]) |>.insertIdx! 0 (rd #[] "{ (w { (T.assumption 'assumption ) } ) }"))
inductive V where
  | none
  | bool (b:Bool)
  | int (i:Int)
  | str (s:Str)
  | tup (vs:List V)
  | ref (a:Addr)
  | inst (C d:Addr)
  | range (a b:Int)
noncomputable abbrev Key:=Sum Str Int
inductive Zd where
  | list (vs:List V)
  | dict (es:List (Key×V))
  | tdict (es:List (List Key×V))
  | flds (C:Addr) (vs:List V)
  | set (is:List Int)
noncomputable abbrev MH:=Addr->Option Zd
noncomputable def MH.set (σ:MH) (a:Addr) (o:Zd):MH:=λb=>if b=a then some o else σ b
theorem MH.set_same (σ:MH) (a:Addr) (o:Zd):σ.set a o a=some o:=by simp [MH.set]
theorem MH.set_ne {σ:MH} {a b:Addr} {o:Zd} (h:b≠a):σ.set a o b=σ b:=by simp [MH.set,h]
noncomputable def XY (o:Obj):Prop:=(∃items n,o.data=.seq items n/\o.cls=.type "tuple")\/o.data=.plain\/∃vs,o.data=.fields vs/\o.cls=.type "range"
mutual
noncomputable def Zv (h:Heap):V->Value->Prop
  | .none,u=>u=.none
  | .bool b,u=>u=.bool b
  | .int i,u=>∃t,u=.int i t
  | .str s,u=>∃t,u=.str s t
  | .ref a,u=>u=.ref a
  | .inst C d,u=>∃x,u=.ref x/\h.get? x=some (instObj C d)
  | .range a b,u=>∃x t1 t2 t3,u=.ref x/\IsRange h x a b 1 t1 t2 t3
  | .tup ms,u=>∃x items,u=.ref x/\IsTup h x items/\Zc h ms items.toList
noncomputable def Zc (h:Heap):List V->List Value->Prop
  | [],us=>us=[]
  | m::ms,us=>∃u r,us=u::r/\Zv h m u/\Zc h ms r
end
theorem vr0 {h:Heap} {u:Value}:Zv h .none u=(u=.none):=rfl
theorem vr1 {h:Heap} {u:Value} {b:Bool}:Zv h (.bool b) u=(u=.bool b):=rfl
theorem vr2 {h:Heap} {u:Value} {i:Int}:Zv h (.int i) u=∃t,u=.int i t:=rfl
theorem vr3 {h:Heap} {u:Value} {s:Str}:Zv h (.str s) u=∃t,u=.str s t:=rfl
theorem vr4 {h:Heap} {u:Value} {a:Addr}:Zv h (.ref a) u=(u=.ref a):=rfl
theorem vr5 {h:Heap} {u:Value} {C d:Addr}:Zv h (.inst C d) u=∃x,u=.ref x/\h.get? x=some (instObj C d):=rfl
theorem vr6 {h:Heap} {u:Value} {a b:Int}:Zv h (.range a b) u=∃x t1 t2 t3,u=.ref x/\IsRange h x a b 1 t1 t2 t3:=rfl
theorem vr7 {h:Heap} {u:Value} {ms:List V}:Zv h (.tup ms) u=∃x items,u=.ref x/\IsTup h x items/\Zc h ms items.toList:=rfl
theorem vs0 {h:Heap} {us:List Value}:Zc h [] us=(us=[]):=rfl
theorem vs1 {h:Heap} {us:List Value} {m:V} {ms:List V}:Zc h (m::ms) us=∃u r,us=u::r/\Zv h m u/\Zc h ms r:=rfl
noncomputable def ZJ (h h':Heap):Prop:=∀b o,h.get? b=some o->XY o->h'.get? b=some o
theorem ZJ.refl (h:Heap):ZJ h h:=λ_ _ e _=>e
theorem ZJ.trans {a b c:Heap} (x:ZJ a b) (y:ZJ b c):ZJ a c:=λp o e v=>y p o (x p o e v) v
theorem YZ {h h':Heap} {x items} (t:IsTup h x items) (k:ZJ h h'):IsTup h' x items:=
  by obtain ⟨o,ho,hc,n,hd⟩:=t;exact ⟨o,k x o ho (.inl ⟨items,n,hd,hc⟩),hc,n,hd⟩
mutual
theorem Zv.keep {h h':Heap} (k:ZJ h h'):∀{m:V} {u:Value},Zv h m u->Zv h' m u
  | .none,u,r=>by simpa [vr0,vr1,vr2,vr3,vr4,vr5,vr6,vr7] using r
  | .bool b,u,r=>by simpa [vr0,vr1,vr2,vr3,vr4,vr5,vr6,vr7] using r
  | .int i,u,r=>by simpa [vr0,vr1,vr2,vr3,vr4,vr5,vr6,vr7] using r
  | .str s,u,r=>by simpa [vr0,vr1,vr2,vr3,vr4,vr5,vr6,vr7] using r
  | .ref a,u,r=>by simpa [vr0,vr1,vr2,vr3,vr4,vr5,vr6,vr7] using r
  | .inst C d,u,r=>by
    simp only [vr0,vr1,vr2,vr3,vr4,vr5,vr6,vr7] at r ⊢;obtain ⟨x,e,g⟩:=r;exact ⟨x,e,k _ _ g (.inr (.inl rfl))⟩
  | .range a b,u,r=>by
    simp only [vr0,vr1,vr2,vr3,vr4,vr5,vr6,vr7] at r ⊢;obtain ⟨x,t1,t2,t3,e,g⟩:=r;exact ⟨x,t1,t2,t3,e,k _ _ g (.inr (.inr ⟨_,rfl,rfl⟩))⟩
  | .tup ms,u,r=>by
    simp only [vr0,vr1,vr2,vr3,vr4,vr5,vr6,vr7] at r ⊢;obtain ⟨x,items,e,t,rs⟩:=r;exact ⟨x,items,e,YZ t k,Zc.keep k rs⟩
theorem Zc.keep {h h':Heap} (k:ZJ h h'):∀{ms:List V} {us:List Value},Zc h ms us->Zc h' ms us
  | [],us,r=>by simpa [vs0,vs1] using r
  | m::ms,us,r=>by
    simp only [vs0,vs1] at r ⊢;obtain ⟨u,rest,e,a,b⟩:=r;exact ⟨u,rest,e,Zv.keep k a,Zc.keep k b⟩
end
theorem Zc.nil {h:Heap}:Zc h [] []:=by simp [vs0,vs1]
theorem Zc.cons {h:Heap} {m ms u us} (a:Zv h m u) (b:Zc h ms us):Zc h (m::ms) (u::us):=by simp only [vs0,vs1];exact ⟨u,us,rfl,a,b⟩
theorem Zc.length {h:Heap}:∀{ms:List V} {us:List Value},Zc h ms us->ms.length=us.length
  | [],us,r=>by simp only [vs0,vs1] at r;subst r;rfl
  | m::ms,us,r=>by
    simp only [vs0,vs1] at r;obtain ⟨u,rest,rfl,a,b⟩:=r;simp [Zc.length b]
theorem Zc.get {h:Heap}:∀{ms:List V} {us:List Value} (i:Nat) {m:V},Zc h ms us->ms[i]?=some m->∃u,us[i]?=some u/\Zv h m u
  | [],us,i,m,r,e=>by simp at e
  | m::ms,us,0,m',r,e=>by
    simp only [vs0,vs1] at r;obtain ⟨u,rest,rfl,a,b⟩:=r;simp only [List.getElem?_cons_zero,Option.some.injEq] at e;subst e;exact ⟨u,rfl,a⟩
  | m::ms,us,i+1,m',r,e=>by
    simp only [vs0,vs1] at r;obtain ⟨u,rest,rfl,a,b⟩:=r;simp only [List.getElem?_cons_succ] at e ⊢;exact Zc.get i b e
theorem Zc.append {h:Heap}:∀{ms:List V} {us:List Value} {ms' us'},Zc h ms us->Zc h ms' us'->Zc h (ms++ms') (us++us')
  | [],us,ms',us',r,r'=>by simp only [vs0,vs1] at r;subst r;simpa using r'
  | m::ms,us,ms',us',r,r'=>by
    simp only [vs0,vs1] at r;obtain ⟨u,rest,rfl,a,b⟩:=r;exact Zc.cons a (Zc.append b r')
theorem Zc.take {h:Heap}:∀{ms:List V} {us:List Value} (n:Nat),Zc h ms us->Zc h (ms.take n) (us.take n)
  | [],us,n,r=>by simp only [vs0,vs1] at r;subst r;simp [vs0,vs1]
  | m::ms,us,0,r=>by simp [vs0,vs1]
  | m::ms,us,n+1,r=>by
    simp only [vs0,vs1] at r;obtain ⟨u,rest,rfl,a,b⟩:=r;exact Zc.cons a (Zc.take n b)
theorem Zc.drop {h:Heap}:∀{ms:List V} {us:List Value} (n:Nat),Zc h ms us->Zc h (ms.drop n) (us.drop n)
  | ms,us,0,r=>by simpa using r
  | [],us,n+1,r=>by simp only [vs0,vs1] at r;subst r;simp [vs0,vs1]
  | m::ms,us,n+1,r=>by
    simp only [vs0,vs1] at r;obtain ⟨u,rest,rfl,a,b⟩:=r;simpa using Zc.drop n b
theorem Zc.reverse {h:Heap}:∀{ms:List V} {us:List Value},Zc h ms us->Zc h ms.reverse us.reverse
  | [],us,r=>by simp only [vs0,vs1] at r;subst r;simp [vs0,vs1]
  | m::ms,us,r=>by
    simp only [vs0,vs1] at r;obtain ⟨u,rest,rfl,a,b⟩:=r;simp only [List.reverse_cons];exact Zc.append (Zc.reverse b) (Zc.cons a Zc.nil)
theorem Zc.snoc {h:Heap} {ms:List V} {us:List Value} {m u} (r:Zc h ms us) (a:Zv h m u):Zc h (ms++[m]) (us++[u]):=r.append (Zc.cons a Zc.nil)
set_option tactic.hygienic false
noncomputable def U4:Key->Value->Bool
  | .inl x,u=>Value.isStrOf x u
  | .inr i,u=>Value.isInt i u
theorem Yn {x:Str} {u:Value} (h:U4 (.inl x) u=true):∃t,u=.str x t:=Value.isStrOf_shape h
theorem Z9 {i:Int} {u:Value} (h:U4 (.inr i) u=true):∃t,u=.int i t:=Value.isInt_shape h
theorem Vl {prog:Program} {w:World} {A:Around} {E:Value->Shared->Prop} {s:Shared} {a:Str} {t:Tok} {b:Int} {u:Tok} {Q:Bool->Shared->Prop} (h:Q false s) :
    wpAny (model prog w) A (eqBool (.str a t) (.int b u)) Q E s:=by
  unfold eqBool;rw [if_neg (by intro h;have:=eq_of_beq h;cases this)];exact wpAny_bind (EqMixed.eq_str_int (wpAny_truthy_bool h))
theorem VC {prog:Program} {w:World} {A:Around} {E:Value->Shared->Prop} {s:Shared} {a:Int} {t:Tok} {b:Str} {u:Tok} {Q:Bool->Shared->Prop} (h:Q false s) :
    wpAny (model prog w) A (eqBool (.int a t) (.str b u)) Q E s:=by
  unfold eqBool;rw [if_neg (by intro h;have:=eq_of_beq h;cases this)];exact wpAny_bind (EqMixed.eq_int_str (wpAny_truthy_bool h))
noncomputable def UY (prog:Program) (w:World):KeyKind prog w Key where
  is:=U4
  hash:=λk=>match k with | .inl x=>hashStr w x | .inr i=>hashInt i
  inj:=λv a b ha hb=>by
    cases a with
    | inl x=>
      obtain ⟨t,rfl⟩:=Yn ha;cases b with
      | inl y=>obtain ⟨t',h⟩:=Yn hb;injection h with h;rw [h]
      | inr j=>obtain ⟨t',h⟩:=Z9 hb;cases h
    | inr i=>
      obtain ⟨t,rfl⟩:=Z9 ha;cases b with
      | inl y=>obtain ⟨t',h⟩:=Yn hb;cases h
      | inr j=>obtain ⟨t',h⟩:=Z9 hb;injection h with h;rw [h]
  byValue:=λk v h=>by
    cases k with
    | inl x=>obtain ⟨t,rfl⟩:=Yn h;rfl
    | inr i=>obtain ⟨t,rfl⟩:=Z9 h;rfl
  pyHash:=λ{A E s k v Q} hv h=>by
    cases k with
    | inl x=>obtain ⟨t,rfl⟩:=Yn hv;exact wpAny_pyHash_str h
    | inr i=>obtain ⟨t,rfl⟩:=Z9 hv;exact wpAny_pyHash_int h
  eqBool:=λ{A E s a b u v Q} hu hv h=>by
    cases a with
    | inl x=>
      obtain ⟨t,rfl⟩:=Yn hu;cases b with
      | inl y=>obtain ⟨t',rfl⟩:=Yn hv;exact wpAny_eqBool_str (by simpa using h)
      | inr j=>obtain ⟨t',rfl⟩:=Z9 hv;exact Vl (by simpa using h)
    | inr i=>
      obtain ⟨t,rfl⟩:=Z9 hu;cases b with
      | inl y=>obtain ⟨t',rfl⟩:=Yn hv;exact VC (by simpa using h)
      | inr j=>
        obtain ⟨t',rfl⟩:=Z9 hv;refine wpAny_eqBool_int ?_;have e:(i==j)=decide ((Sum.inr i:Key)=Sum.inr j):=by
          rw [Bool.eq_iff_iff];simp
        rw [e];exact h
  «strs»:=λk x t v h=>by
    cases k with
    | inl y=>
      obtain ⟨u,hu⟩:=Yn h;injection hu with hx
      subst hx;cases v <;> rfl
    | inr i=>obtain ⟨u,hu⟩:=Z9 h;cases hu
noncomputable def V.ofKey:Key->V
  | .inl x=>.str x
  | .inr i=>.int i
theorem Yl {h:Heap} {k:Key} {u:Value} (r:Zv h (V.ofKey k) u):U4 k u=true:=by
  cases k with
  | inl x=>obtain ⟨t,rfl⟩:=(show ∃t,u=.str x t from r);exact beq_self_eq_true x
  | inr i=>obtain ⟨t,rfl⟩:=(show ∃t,u=.int i t from r);exact beq_self_eq_true i
set_option genInjectivity false in
structure Sys where
  prog:Program
  w:World
  K:Frag
  h0:Heap
  flds:Addr->List Str
  exc:Option Addr:=none
noncomputable abbrev Sys.M (S:Sys):Model:=model S.prog S.w
noncomputable abbrev Sys.kk (S:Sys):KeyKind S.prog S.w Key:=UY S.prog S.w
noncomputable abbrev Sys.tk (S:Sys):HeapKind S.prog S.w (List Key):=tupleKind (UY S.prog S.w)
structure SysOk (S:Sys):Prop where
  K:S.K.In S.h0
  g:∃mg,S.h0.Ns mainGlobals mg
  b:∃mb,S.h0.Ns builtinsNs mb/\∀x:Str,x≠"__name__"->mb x=bootBuiltins x
  nolimit:S.h0.NoLimit
  mods:∃o,S.h0.get? sysModules=some o
noncomputable def Zm (S:Sys) (h:Heap):List Str->List V->List DictEntry->Prop
  | _,[],es=>es=[]
  | n::ns,m::ms,es=>∃e r,es=e::r/\(∃t,e.key=.str n t)/\e.hash=PyData.keyHash S.w.params n/\Zv h m e.val/\Zm S h ns ms r
  | [],_::_,_=>False
noncomputable def XB (S:Sys) (h:Heap) (a:Addr):Zd->Prop
  | .list ms=>∃us n,h.get? a=some (listOf us.toArray n)/\Zc h ms us
  | .dict es=>∃kvs,h.DictOf S.kk a kvs/\kvs.map Prod.fst=es.map Prod.fst/\Zc h (es.map Prod.snd) (kvs.map Prod.snd)
  | .tdict es=>∃xs,h.DictOfH S.tk a xs/\xs.map Prod.fst=es.map Prod.fst/\Zc h (es.map Prod.snd) (xs.map λx=>x.2.2)
  | .flds C ms=>∃es n,h.get? a=some (dictOf es n)/\Zm S h (S.flds C) ms es
  | .set is=>Y1 S.prog S.w h a is
theorem or0 {S:Sys} {h:Heap} {a:Addr} {ms:List V}:XB S h a (.list ms)=∃us n,h.get? a=some (listOf us.toArray n)/\Zc h ms us:=rfl
theorem or1 {S:Sys} {h:Heap} {a:Addr} {es:List (Key×V)}:XB S h a (.dict es)=∃kvs,h.DictOf S.kk a kvs/\kvs.map Prod.fst=es.map Prod.fst/\Zc h (es.map Prod.snd) (kvs.map Prod.snd):=rfl
theorem or2 {S:Sys} {h:Heap} {a:Addr} {es:List (List Key×V)}:XB S h a (.tdict es)=∃xs,h.DictOfH S.tk a xs/\xs.map Prod.fst=es.map Prod.fst/\Zc h (es.map Prod.snd) (xs.map λx=>x.2.2):=rfl
theorem or3 {S:Sys} {h:Heap} {a C:Addr} {ms:List V}:XB S h a (.flds C ms)=∃es n,h.get? a=some (dictOf es n)/\Zm S h (S.flds C) ms es:=rfl
theorem or4 {S:Sys} {h:Heap} {a:Addr} {is:List Int}:XB S h a (.set is)=Y1 S.prog S.w h a is:=rfl
noncomputable def Base (S:Sys) (h:Heap):Prop:=∀a o,S.h0.get? a=some o->h.get? a=some o
structure StG (S:Sys) (σ:MH) (s:Shared):Prop where
  base:Base S s.heap
  objs:∀a mo,σ a=some mo->S.h0.get? a=none/\XB S s.heap a mo
  gens:s.gens=#[]
noncomputable def NsD (o:Obj):Prop:=∃es ep,o.data=.dict es ep
noncomputable def XW (h:Heap) (b:Addr) (o:Obj):Prop:=h.get? b=some o\/(NsD o/\∃sl,h.get? b=some { o with slots:=sl })
theorem XW.exact {h:Heap} {b:Addr} {o:Obj} (k:XW h b o) (n:¬ NsD o):h.get? b=some o:=k.resolve_right λq=>n q.1
theorem XW.vital {h:Heap} {b:Addr} {o:Obj} (k:XW h b o) (v:XY o):h.get? b=some o:=k.exact λq=>by
  obtain ⟨es,ep,e⟩:=q;rcases v with ⟨_,_,h,_⟩ | h | ⟨_,h,_⟩ <;> (rw [e] at h;cases h)
theorem XW.ns {h h':Heap} {a:Addr} {m:Str->Option Value} (x:h.Ns a m) (k:∀o,h.get? a=some o->XW h' a o):h'.Ns a m:=by
  obtain ⟨o,es,ep,ho,r⟩:=x;rcases k o ho with q | ⟨_,sl,q⟩
  · exact ⟨o,es,ep,q,r⟩
  · exact ⟨_,es,ep,q,r⟩
theorem XW.then {h h':Heap} {b:Addr} {o:Obj} (k:XW h b o) (n:∀o',h.get? b=some o'->XW h' b o'):XW h' b o:=by
  rcases k with q | ⟨⟨es,ep,e⟩,sl,q⟩
  · exact n o q
  · rcases n _ q with q | ⟨_,sl',q⟩
    · exact .inr ⟨⟨es,ep,e⟩,sl,q⟩
    · exact .inr ⟨⟨es,ep,e⟩,sl',q⟩
structure Ze (own:Addr->Prop) (σ:MH) (s:Shared) (σ':MH) (s':Shared):Prop where
  keep:∀b o,s.heap.get? b=some o->σ b=none->¬ own b->XW s'.heap b o
  alive:∀a o,s.heap.get? a=some o->∃o',s'.heap.get? a=some o'
  dom:∀a,σ' a≠none->σ a≠none\/s.heap.get? a=none
  os:s'.os=s.os
noncomputable abbrev ZI:Addr->Prop:=λ_=>False
theorem Ze.refl {own:Addr->Prop} (σ:MH) (s:Shared):Ze own σ s σ s:=⟨λ_ _ e _ _=>.inl e,λ_ o e=>⟨o,e⟩,λ_ h=>.inl h,rfl⟩
theorem Ze.weaken {own own':Addr->Prop} {σ σ':MH} {s s':Shared} (x:Ze own σ s σ' s') (h:∀a,own a->own' a):Ze own' σ s σ' s':=
  ⟨λb o e hn ho=>x.keep b o e hn (λq=>ho (h b q)),x.alive,x.dom,x.os⟩
theorem Ze.none {own:Addr->Prop} {σ σ':MH} {s s':Shared} (x:Ze own σ s σ' s') {a:Addr} {o:Obj} (e:s.heap.get? a=some o) (h:σ a=none):σ' a=none:=by
  cases q:σ' a with
  | none=>rfl
  | some mo=>
    rcases x.dom a (by rw [q];simp) with h1 | h1
    · exact absurd h h1
    · rw [h1] at e;cases e
theorem Ze.trans {own:Addr->Prop} {σ σ1 σ2:MH} {s s1 s2:Shared} (x:Ze own σ s σ1 s1) (y:Ze own σ1 s1 σ2 s2):Ze own σ s σ2 s2 where
  keep:=λb o e hn ho=>(x.keep b o e hn ho).then λo' e'=>y.keep b o' e' (x.none e hn) ho
  alive:=λa o e=>by obtain ⟨o',e'⟩:=x.alive a o e;exact y.alive a o' e'
  dom:=λa h=>by
    rcases y.dom a h with h1 | h1
    · exact x.dom a h1
    · cases e:s.heap.get? a with
      | none=>exact .inr rfl
      | some o=>obtain ⟨o',e'⟩:=x.alive a o e;rw [h1] at e';cases e'
  os:=y.os.trans x.os
theorem Ze.from_no {own:Addr->Prop} {σ σ':MH} {s s':Shared} (x:Ze ZI σ s σ' s'):Ze own σ s σ' s':=x.weaken λ_ h=>h.elim
theorem Ja {S:Sys} {h:Heap} {a:Addr} {mo:Zd} (r:XB S h a mo) {o:Obj} (e:h.get? a=some o):¬ XY o:=by
  cases mo with
  | list ms=>
    obtain ⟨us,n,ho,_⟩:=r;rw [ho] at e;cases e;rintro (⟨_,_,_,h⟩ | h | ⟨_,h,_⟩)
    · injection h with h;exact absurd h (by decide)
    · cases h
    · cases h
  | dict es=>
    obtain ⟨kvs,⟨o',es',ep,ho,hc,hd,_⟩,_⟩:=r;rw [ho] at e;cases e;rintro (⟨_,_,h,_⟩ | h | ⟨_,h,_⟩) <;> (rw [hd] at h;cases h)
  | tdict es=>
    obtain ⟨kvs,⟨o',es',ep,ho,hc,hd,_⟩,_⟩:=r;rw [ho] at e;cases e;rintro (⟨_,_,h,_⟩ | h | ⟨_,h,_⟩) <;> (rw [hd] at h;cases h)
  | flds C ms=>
    obtain ⟨es',n,ho,_⟩:=r;rw [ho] at e;cases e;rintro (⟨_,_,h,_⟩ | h | ⟨_,h,_⟩) <;> cases h
  | set is=>
    obtain ⟨es,ep,t,ho,_⟩:=r;rw [ho] at e;cases e;rintro (⟨_,_,h,_⟩ | h | ⟨_,h,_⟩) <;> cases h
theorem Ze.vkeep {S:Sys} {own:Addr->Prop} {σ σ':MH} {s s':Shared} (x:Ze own σ s σ' s') (G:StG S σ s)
    (ho:∀a o,own a->s.heap.get? a=some o->¬ XY o):ZJ s.heap s'.heap:=λb o e v=>
  (x.keep b o e (by
    cases h:σ b with
    | none=>rfl
    | some mo=>exact absurd v (Ja (G.objs b mo h).2 e)) λq=>ho b o q e v).vital v
theorem Ze.vkeep0 {S:Sys} {σ σ':MH} {s s':Shared} (x:Ze ZI σ s σ' s') (G:StG S σ s):ZJ s.heap s'.heap:=x.vkeep G λ_ _ h=>h.elim
set_option genInjectivity false in
structure Frm where
  env:Env
  cells:List Addr
  isFn:Bool
  σ0:MH
  s0:Shared
  fr:Option (List Env)
noncomputable def Frm.own (F:Frm) (a:Addr):Prop:=a=F.env.locals\/a∈F.cells
noncomputable abbrev Rho:=List (Str×Option V)
structure FrOk (F:Frm) (ρ:Rho) (h:Heap):Prop where
  kind:F.env.scope.kind=.function
  glob:F.env.globals=mainGlobals
  blt:F.env.builtins=builtinsNs
  loc:∃m,h.Ns F.env.locals m/\∀x v,(x,some v)∈ρ->F.env.kindOf x=some .local->∃u,m x=some u/\Zv h v u
  cell:∀x o,(x,o)∈ρ->F.env.kindOf x=some .cell->∃c,F.env.cells.lookup x=some c/\(∃u,h.IsCell c u)/\∀v,o=some v->∃u,h.IsCell c (some u)/\Zv h v u
  kinds:∀x o,(x,o)∈ρ->F.env.kindOf x=some .local\/F.env.kindOf x=some .cell
  nodup:(ρ.map Prod.fst).Nodup
  cellsAre:∀c∈F.cells,∃u,h.IsCell c u
  allCells:∀x c,F.env.cells.lookup x=some c->∃u,h.IsCell c u
  inj:∀x y c,F.env.cells.lookup x=some c->F.env.cells.lookup y=some c->x=y
  nodbg:∀x o,(x,o)∈ρ->(x==("__debug__":Str))=false
  full:F.isFn=true->∀x c,F.env.cells.lookup x=some c->c∈F.cells
  lcell:∀x c,F.env.cells.lookup x=some c->c≠F.env.locals
structure Wz (S:Sys) (F:Frm) (σ:MH) (h:Heap) (L:Addr):Prop where
  base:S.h0.get? L=none
  un:σ L=none
  own:¬ F.own L
  old:∃o,F.s0.heap.get? L=some o
  ns:∃m,h.Ns L m
theorem Wz.to {S:Sys} {F:Frm} {σ σ':MH} {h h':Heap} {L:Addr} (x:Wz S F σ h L) (un:σ' L=none) (k:∀o,h.get? L=some o->XW h' L o):Wz S F σ' h' L:=
  ⟨x.base,un,x.own,x.old,by obtain ⟨m,hm⟩:=x.ns;exact ⟨m,XW.ns hm k⟩⟩
noncomputable def Outs (S:Sys) (F:Frm) (σ:MH) (h:Heap):Prop:=∀l,F.fr=some l->∀env∈l,env.scope.kind≠.module/\∃L,env.frame=some L/\Wz S F σ h L
theorem Outs.to {S:Sys} {F:Frm} {σ σ':MH} {h h':Heap} (x:Outs S F σ h) (k:∀L,Wz S F σ h L->Wz S F σ' h' L):Outs S F σ' h':=λl e env he=>by
  obtain ⟨a,L,b,c⟩:=x l e env he;exact ⟨a,L,b,k L c⟩
structure St (S:Sys) (F:Frm) (ρ:Rho) (σ:MH) (s:Shared):Prop where
  g:StG S σ s
  fr:FrOk F ρ s.heap
  lo:S.h0.get? F.env.locals=none/\σ F.env.locals=none
  los:∀x c,F.env.cells.lookup x=some c->S.h0.get? c=none/\σ c=none
  locs:∀c∈F.cells,S.h0.get? c=none/\σ c=none
  hist:Ze F.own F.σ0 F.s0 σ s
  outs:Outs S F σ s.heap
theorem JG {h:Heap} {a:Addr} {m:Str->Option Value} (n:h.Ns a m) {o:Obj} (e:h.get? a=some o):¬ XY o:=by
  obtain ⟨o',es,ep,ho,hd,_⟩:=n;rw [ho] at e;cases e;rintro (⟨_,_,h,_⟩ | h | ⟨_,h,_⟩) <;> (rw [hd] at h;cases h)
theorem K5 {h:Heap} {a:Addr} {u:Option Value} (n:h.IsCell a u) {o:Obj} (e:h.get? a=some o):¬ XY o:=by
  obtain ⟨o',ho,hd⟩:=n;rw [ho] at e;cases e;rintro (⟨_,_,h,_⟩ | h | ⟨_,h,_⟩) <;> (rw [hd] at h;cases h)
theorem St.own_not_vital {S:Sys} {F:Frm} {ρ:Rho} {σ:MH} {s:Shared} (x:St S F ρ σ s):∀a o,F.own a->s.heap.get? a=some o->¬ XY o:=by
  intro a o h e;rcases h with rfl | h
  · obtain ⟨m,hn,_⟩:=x.fr.loc;exact JG hn e
  · obtain ⟨u,hc⟩:=x.fr.cellsAre a h;exact K5 hc e
theorem St.vkeep {S:Sys} {F:Frm} {ρ:Rho} {σ σ':MH} {s s':Shared} (x:St S F ρ σ s) (y:Ze F.own σ s σ' s'):ZJ s.heap s'.heap:=y.vkeep x.g x.own_not_vital
theorem Yg {h h':Heap} {c:Addr} {u:Option Value} (x:h.IsCell c u) (k:∀o,h.get? c=some o->h'.get? c=some o):h'.IsCell c u:=by obtain ⟨o,ho,hd⟩:=x;exact ⟨o,k o ho,hd⟩
theorem Xn {h h':Heap} {c:Addr} {u:Option Value} (x:h.IsCell c u) (k:∀o,h.get? c=some o->XW h' c o):h'.IsCell c u:=by
  obtain ⟨o,ho,hd⟩:=x;exact ⟨o,(k o ho).exact (λq=>by obtain ⟨_,_,e⟩:=q;rw [e] at hd;cases hd),hd⟩
theorem KQ {h h':Heap} {a:Addr} {m:Str->Option Value} (x:h.Ns a m) (k:∀o,h.get? a=some o->h'.get? a=some o):h'.Ns a m:=by obtain ⟨o,es,ep,ho,r⟩:=x;exact ⟨o,es,ep,k o ho,r⟩
theorem St.step {S:Sys} {F:Frm} {ρ:Rho} {σ σ':MH} {s s':Shared} (x:St S F ρ σ s) (y:Ze ZI σ s σ' s') (g:StG S σ' s'):St S F ρ σ' s':=by
  have vk:=y.vkeep0 x.g;have kl:∀o,s.heap.get? F.env.locals=some o->XW s'.heap F.env.locals o:=λo e=>y.keep _ o e x.lo.2 id;have nd:∀a u,σ a=none->s.heap.IsCell a u->σ' a=none:=λa u h zz=>by obtain ⟨o,e,_⟩:=zz;exact y.none e h
  obtain ⟨m,hn,hm⟩:=x.fr.loc;refine ⟨g,⟨x.fr.kind,x.fr.glob,x.fr.blt,⟨m,XW.ns hn kl,λz v hz hk=>?_⟩,λz o hz hk=>?_,x.fr.kinds,x.fr.nodup,λc hc=>?_,λz c hc=>?_,x.fr.inj,x.fr.nodbg,x.fr.full,x.fr.lcell⟩,⟨x.lo.1,?_⟩,λz c hc=>⟨(x.los z c hc).1,?_⟩,λc hc=>⟨(x.locs c hc).1,?_⟩,x.hist.trans y.from_no,x.outs.to λL z=>z.to (by obtain ⟨m,o,_,_,ho,_⟩:=z.ns;exact y.none ho z.un) λo e=>y.keep _ o e z.un id⟩
  · obtain ⟨u,e,r⟩:=hm z v hz hk;exact ⟨u,e,r.keep vk⟩
  · obtain ⟨c,hl,⟨u,hu⟩,hv⟩:=x.fr.cell z o hz hk;have kc:∀o,s.heap.get? c=some o->XW s'.heap c o:=λo e=>y.keep _ o e (x.los z c hl).2 id;refine ⟨c,hl,⟨u,Xn hu kc⟩,λv e=>?_⟩;obtain ⟨u',a,b⟩:=hv v e;exact ⟨u',Xn a kc,b.keep vk⟩
  · obtain ⟨u,hu⟩:=x.fr.cellsAre c hc;exact ⟨u,Xn hu λo e=>y.keep _ o e (x.locs c hc).2 id⟩
  · obtain ⟨u,hu⟩:=x.fr.allCells z c hc;exact ⟨u,Xn hu λo e=>y.keep _ o e (x.los z c hc).2 id⟩
  · obtain ⟨ol,_,_,e,_⟩:=hn;exact y.none e x.lo.2
  · obtain ⟨u,hu⟩:=x.fr.allCells z c hc;exact nd c u (x.los z c hc).2 hu
  · obtain ⟨u,hu⟩:=x.fr.cellsAre c hc;exact nd c u (x.locs c hc).2 hu
noncomputable def KL (n:Nat×Nat) (A:Around):Prop:=A.handled=none/\A.depth+n.1<1000/\A.units+40 * n.1+n.2+70<9900/\(∃fr,A.frames=some fr)/\∃gs,A.guards=some gs
noncomputable def Yz (F:Frm) (n:Nat×Nat) (A:Around):Prop:=A.handled=none/\KL n A/\∀l,F.fr=some l->A.frames=some (F.env::l)
theorem Yz.of {F Fc:Frm} {n:Nat×Nat} {A:Around} (h:Yz F n A) (e:Fc.fr=none):Yz Fc n A:=⟨h.1,h.2.1,λl q=>by rw [e] at q;cases q⟩
noncomputable def Flies (h:Heap) (a C:Addr):Prop:=
  ∃o vs,h.get? a=some o/\o.cls=.ref C/\o.data=.fields vs/\
    (vs[1]?=some .none\/∃T oT ts,vs[1]?=some (.ref T)/\h.get? T=some oT/\oT.data=.fields ts/\ts[3]?=some .none)
noncomputable def ExcAt (S:Sys) (h1 h:Heap) (e:Value):Prop:=∃a C,e=.ref a/\S.exc=some C/\S.h0.get? a=none/\h1.get? a=none/\Flies h a C
inductive EX (S:Sys) (F:Frm) (X:MH->Prop) (e:Value) (s':Shared):Prop where
  | mk (ρ:Rho) (σ':MH) (x:St S F ρ σ' s') (r:ExcAt S F.s0.heap s'.heap e) (q:X σ'):EX S F X e s'
inductive PW {α β:Type} (S:Sys) (F:Frm) (R:Heap->β->α->Prop) (ρ:Rho) (σ:MH) (s:Shared) (Q:β->MH->Prop) (v:α) (s':Shared):Prop where
  | mk (m:β) (σ':MH) (y:Ze ZI σ s σ' s') (x:St S F ρ σ' s') (r:R s'.heap m v) (q:Q m σ'):PW S F R ρ σ s Q v s'
noncomputable def W {α β:Type} (S:Sys) (F:Frm) (n:Nat×Nat) (R:Heap->β->α->Prop) (t:Sem α) (ρ:Rho) (σ:MH) (Q:β->MH->Prop) (X:MH->Prop):Prop:=
  ∀A s,Yz F n A->St S F ρ σ s->wpAny S.M A t (PW S F R ρ σ s Q) (EX S F X) s
noncomputable abbrev WE (S:Sys) (F:Frm) (n:Nat×Nat) (t:Sem Value) (ρ:Rho) (σ:MH) (Q:V->MH->Prop) (X:MH->Prop):Prop:=W S F n Zv t ρ σ Q X
noncomputable abbrev WEs (S:Sys) (F:Frm) (n:Nat×Nat) (t:Sem (List Value)) (ρ:Rho) (σ:MH) (Q:List V->MH->Prop) (X:MH->Prop):Prop:=W S F n Zc t ρ σ Q X
noncomputable def BRep (_:Heap) (m v:Bool):Prop:=v=m
noncomputable abbrev WB (S:Sys) (F:Frm) (n:Nat×Nat) (t:Sem Bool) (ρ:Rho) (σ:MH) (Q:Bool->MH->Prop) (X:MH->Prop):Prop:=W S F n BRep t ρ σ Q X
inductive MF where
  | next | brk | cont
  | ret (v:V)
noncomputable def FRep (h:Heap):MF->Flow->Prop
  | .next,f=>f=.next
  | .brk,f=>f=.brk
  | .cont,f=>f=.cont
  | .ret m,f=>∃u,f=.ret u/\Zv h m u
inductive PWX {α β:Type} (S:Sys) (F:Frm) (R:Heap->β->α->Prop) (σ:MH) (s:Shared) (Q:β->Rho->MH->Prop) (v:α) (s':Shared):Prop where
  | mk (m:β) (ρ':Rho) (σ':MH) (y:Ze F.own σ s σ' s') (x:St S F ρ' σ' s') (r:R s'.heap m v) (q:Q m ρ' σ'):PWX S F R σ s Q v s'
noncomputable def WX {α β:Type} (S:Sys) (F:Frm) (n:Nat×Nat) (R:Heap->β->α->Prop) (t:Sem α) (ρ:Rho) (σ:MH) (Q:β->Rho->MH->Prop) (X:MH->Prop):Prop:=
  ∀A s,Yz F n A->St S F ρ σ s->wpAny S.M A t (PWX S F R σ s Q) (EX S F X) s
noncomputable abbrev WS (S:Sys) (F:Frm) (n:Nat×Nat) (t:Sem Flow) (ρ:Rho) (σ:MH) (Q:MF->Rho->MH->Prop) (X:MH->Prop):Prop:=WX S F n FRep t ρ σ Q X
noncomputable def URep (_:Heap) (_ _:Unit):Prop:=True
noncomputable abbrev WU (S:Sys) (F:Frm) (n:Nat×Nat) (t:Sem Unit) (ρ:Rho) (σ:MH) (Q:Rho->MH->Prop) (X:MH->Prop):Prop:=WX S F n URep t ρ σ (λ_=>Q) X
inductive PFn (S:Sys) (σ:MH) (s:Shared) (Q:V->MH->Prop) (r:Result) (s':Shared):Prop where
  | mk (σ':MH) (u:Value) (m:V) (e:r=.ok (.ret u)) (y:Ze ZI σ s σ' s') (x:StG S σ' s') (v:Zv s'.heap m u) (q:Q m σ'):PFn S σ s Q r s'
noncomputable def Fn (S:Sys) (n:Nat) (f:Value) (ms:List V) (σ:MH) (Q:V->MH->Prop):Prop:=
  ∀A s us,KL (n,0) A->StG S σ s->Zc s.heap ms us->
    codeAny S.M A (.call f ⟨us,[]⟩) (PFn S σ s Q) s
set_option tactic.hygienic false
theorem Y4 {S:Sys} {h h':Heap} (k:ZJ h h'):∀{ns:List Str} {ms:List V} {es:List DictEntry},Zm S h ns ms es->Zm S h' ns ms es
  | ns,[],es,r=>by unfold Zm at r ⊢;exact r
  | n::ns,m::ms,es,r=>by
    simp only [Zm] at r ⊢;obtain ⟨e,rest,a,b,c,d,f⟩:=r;exact ⟨e,rest,a,b,c,d.keep k,Y4 k f⟩
  | [],m::ms,es,r=>by simp [Zm] at r
theorem tk_keep {S:Sys} {h h':Heap} (k:ZJ h h') {ks:List Key} {a:Addr} (x:S.tk.is h ks a):S.tk.is h' ks a:=by
  obtain ⟨o,items,n,ho,hc,hd,hi⟩:=x;exact ⟨o,items,n,k a o ho (.inl ⟨items,n,hd,hc⟩),hc,hd,hi⟩
theorem XB.keep {S:Sys} {h h':Heap} {a:Addr} {mo:Zd} (r:XB S h a mo) (ka:∀o,h.get? a=some o->h'.get? a=some o) (k:ZJ h h'):XB S h' a mo:=by
  cases mo with
  | list ms=>
    simp only [or0,or1,or2,or3,or4] at r ⊢;obtain ⟨us,n,ho,b⟩:=r;exact ⟨us,n,ka _ ho,b.keep k⟩
  | dict es=>
    simp only [or0,or1,or2,or3,or4] at r ⊢;obtain ⟨kvs,⟨o,es',ep,ho,q⟩,b,c⟩:=r;exact ⟨kvs,⟨o,es',ep,ka o ho,q⟩,b,c.keep k⟩
  | tdict es=>
    simp only [or0,or1,or2,or3,or4] at r ⊢;obtain ⟨xs,⟨o,es',ep,ho,hc,hd,he,hi,hn⟩,b,c⟩:=r;exact ⟨xs,⟨o,es',ep,ka o ho,hc,hd,he,λx hx=>tk_keep k (hi x hx),hn⟩,b,c.keep k⟩
  | flds C ms=>
    simp only [or0,or1,or2,or3,or4] at r ⊢;obtain ⟨es,n,ho,b⟩:=r;exact ⟨es,n,ka _ ho,Y4 k b⟩
  | set _=>
    simp only [or0,or1,or2,or3,or4] at r ⊢;exact r.keep ka
theorem XB.lt {S:Sys} {h:Heap} {a:Addr} {mo:Zd} (r:XB S h a mo):a<h.objs.size:=by
  cases mo with
  | list ms=>obtain ⟨us,n,ho,b⟩:=r;exact Heap.lt_size ho
  | dict es=>obtain ⟨kvs,⟨o,es',ep,ho,q⟩,b,c⟩:=r;exact Heap.lt_size ho
  | tdict es=>obtain ⟨xs,⟨o,es',ep,ho,_⟩,b,c⟩:=r;exact Heap.lt_size ho
  | flds C ms=>obtain ⟨es,n,ho,b⟩:=r;exact Heap.lt_size ho
  | set _=>obtain ⟨es,ep,t,ho,_⟩:=r;exact Heap.lt_size ho
theorem StG.none_of_size {S:Sys} {σ:MH} {s:Shared} (g:StG S σ s) {a:Addr} (h:s.heap.objs.size<=a):σ a=none:=by
  cases e:σ a with
  | none=>rfl
  | some mo=>exact absurd (g.objs a mo e).2.lt (Nat.not_lt.mpr h)
theorem Zf (h:Heap):h.get? h.objs.size=none:=by
  cases e:h.get? h.objs.size with
  | none=>rfl
  | some o=>exact absurd (Heap.lt_size e) (Nat.lt_irrefl _)
theorem Jd {h:Heap} {a:Addr} (k:h.objs.size<=a):h.get? a=none:=by
  cases e:h.get? a with
  | none=>rfl
  | some o=>exact absurd (Heap.lt_size e) (Nat.not_lt.mpr k)
theorem StG.base_none {S:Sys} {σ:MH} {s:Shared} (g:StG S σ s) {a:Addr} (h:s.heap.get? a=none):S.h0.get? a=none:=by
  cases e:S.h0.get? a with
  | none=>rfl
  | some o=>rw [g.base a o e] at h;cases h
theorem StG.toks {S:Sys} {σ:MH} {s:Shared} (g:StG S σ s) (t:Nat):StG S σ { s with toks:=t }:=⟨g.base,g.objs,g.gens⟩
theorem Ze.toks {own:Addr->Prop} (σ:MH) (s:Shared) (t:Nat):Ze own σ s σ { s with toks:=t }:=⟨λ_ _ e _ _=>.inl e,λ_ o e=>⟨o,e⟩,λ_ h=>.inl h,rfl⟩
theorem St.toks {S:Sys} {F:Frm} {ρ:Rho} {σ:MH} {s:Shared} (x:St S F ρ σ s) (t:Nat):St S F ρ σ { s with toks:=t }:=x.step (Ze.toks σ s t) (x.g.toks t)
theorem StG.alloc {S:Sys} {σ:MH} {s:Shared} (g:StG S σ s) (o:Obj) (mo:Zd) (t:Nat) (r:XB S (s.heap.push o) s.heap.objs.size mo) :
    Ze ZI σ s (σ.set s.heap.objs.size mo) { s with heap:=s.heap.push o,toks:=t }/\StG S (σ.set s.heap.objs.size mo) { s with heap:=s.heap.push o,toks:=t }:=by
  have st:Ze ZI σ s (σ.set s.heap.objs.size mo) { s with heap:=s.heap.push o,toks:=t }:=
    ⟨λb o' e _ _=>.inl (Heap.get?_push_of_some _ e),λb o' e=>⟨o',Heap.get?_push_of_some _ e⟩,λa h=>by
      by_cases e:a=s.heap.objs.size
      · exact .inr (by subst e;exact Zf s.heap)
      · rw [MH.set_ne e] at h;exact .inl h,rfl⟩
  refine ⟨st,λa o' e=>Heap.get?_push_of_some _ (g.base a o' e),λa mo' e=>?_,g.gens⟩;by_cases q:a=s.heap.objs.size
  · subst q;rw [MH.set_same] at e;cases e;exact ⟨g.base_none (Zf s.heap),r⟩
  · rw [MH.set_ne q] at e;exact ⟨(g.objs a mo' e).1,(g.objs a mo' e).2.keep (λo' e'=>Heap.get?_push_of_some _ e') (st.vkeep0 g)⟩
theorem StG.push {S:Sys} {σ:MH} {s:Shared} (g:StG S σ s) (o:Obj) (t:Nat) :
    Ze ZI σ s σ { s with heap:=s.heap.push o,toks:=t }/\StG S σ { s with heap:=s.heap.push o,toks:=t }:=by
  have st:Ze ZI σ s σ { s with heap:=s.heap.push o,toks:=t }:=
    ⟨λb o' e _ _=>.inl (Heap.get?_push_of_some _ e),λb o' e=>⟨o',Heap.get?_push_of_some _ e⟩,λa h=>.inl h,rfl⟩
  exact ⟨st,λa o' e=>Heap.get?_push_of_some _ (g.base a o' e),λa mo' e=>
    ⟨(g.objs a mo' e).1,(g.objs a mo' e).2.keep (λo' e'=>Heap.get?_push_of_some _ e') (st.vkeep0 g)⟩,g.gens⟩
theorem St.alloc {S:Sys} {F:Frm} {ρ:Rho} {σ:MH} {s:Shared} (x:St S F ρ σ s) (o:Obj) (mo:Zd) (t:Nat) (r:XB S (s.heap.push o) s.heap.objs.size mo) :
    Ze ZI σ s (σ.set s.heap.objs.size mo) { s with heap:=s.heap.push o,toks:=t }/\St S F ρ (σ.set s.heap.objs.size mo) { s with heap:=s.heap.push o,toks:=t }:=
  by obtain ⟨a,b⟩:=x.g.alloc o mo t r;exact ⟨a,x.step a b⟩
theorem St.push {S:Sys} {F:Frm} {ρ:Rho} {σ:MH} {s:Shared} (x:St S F ρ σ s) (o:Obj) (t:Nat) :
    Ze ZI σ s σ { s with heap:=s.heap.push o,toks:=t }/\St S F ρ σ { s with heap:=s.heap.push o,toks:=t }:=
  by obtain ⟨a,b⟩:=x.g.push o t;exact ⟨a,x.step a b⟩
theorem XB.at {S:Sys} {h:Heap} {a:Addr} {mo:Zd} (r:XB S h a mo):∃o,h.get? a=some o:=by
  cases mo with
  | list ms=>obtain ⟨us,n,ho,b⟩:=r;exact ⟨_,ho⟩
  | dict es=>obtain ⟨kvs,⟨o,es',ep,ho,q⟩,b,c⟩:=r;exact ⟨_,ho⟩
  | tdict es=>obtain ⟨xs,⟨o,es',ep,ho,_⟩,b,c⟩:=r;exact ⟨_,ho⟩
  | flds C ms=>obtain ⟨es,n,ho,b⟩:=r;exact ⟨_,ho⟩
  | set _=>obtain ⟨es,ep,t,ho,_⟩:=r;exact ⟨_,ho⟩
theorem StG.upd {S:Sys} {σ:MH} {s:Shared} (g:StG S σ s) {a:Addr} {mo mo':Zd} (hm:σ a=some mo) {h':Heap} (t:Nat) (hs:Heap.SameBut a s.heap h')
    (r:ZJ s.heap h'->XB S h' a mo'):Ze ZI σ s (σ.set a mo') { s with heap:=h',toks:=t }/\StG S (σ.set a mo') { s with heap:=h',toks:=t }:=by
  have keep:∀b o,s.heap.get? b=some o->σ b=none->h'.get? b=some o:=λb o e hn=>(hs.2 b (λq=>by rw [q,hm] at hn;cases hn)).trans e;have vk:ZJ s.heap h':=λb o e v=>keep b o e (by
    cases h:σ b with
    | none=>rfl
    | some mo=>exact absurd v (Ja (g.objs b mo h).2 e))
  have st:Ze ZI σ s (σ.set a mo') { s with heap:=h',toks:=t }:=
    ⟨λb o e hn _=>.inl (keep b o e hn),λb o e=>by
      by_cases q:b=a
      · subst q;exact (r vk).at
      · exact ⟨o,(hs.2 b q).trans e⟩,λb h=>by
      by_cases e:b=a
      · subst e;exact .inl (by rw [hm];simp)
      · rw [MH.set_ne e] at h;exact .inl h,rfl⟩
  refine ⟨st,λb o' e=>?_,λb mo2 e=>?_,g.gens⟩
  · have:b≠a:=λq=>by
      subst q;rw [(g.objs b mo hm).1] at e;cases e
    exact (hs.2 b this).trans (g.base b o' e)
  · by_cases q:b=a
    · subst q;rw [MH.set_same] at e;cases e;exact ⟨(g.objs b mo hm).1,r vk⟩
    · rw [MH.set_ne q] at e;exact ⟨(g.objs b mo2 e).1,(g.objs b mo2 e).2.keep (λo' e'=>(hs.2 b q).trans e') vk⟩
theorem St.upd {S:Sys} {F:Frm} {ρ:Rho} {σ:MH} {s:Shared} (x:St S F ρ σ s) {a:Addr} {mo mo':Zd} (hm:σ a=some mo) {h':Heap} (t:Nat) (hs:Heap.SameBut a s.heap h')
    (r:ZJ s.heap h'->XB S h' a mo'):Ze ZI σ s (σ.set a mo') { s with heap:=h',toks:=t }/\St S F ρ (σ.set a mo') { s with heap:=h',toks:=t }:=
  by obtain ⟨p,q⟩:=x.g.upd hm t hs r;exact ⟨p,x.step p q⟩
section
variable {S:Sys} {F:Frm} {n:Nat×Nat} {ρ:Rho} {σ:MH} {Q:V->MH->Prop} {X:MH->Prop}
theorem rName {x:Str} {pos:Pos} {v:V} (h:(x,some v)∈ρ) (q:Q v σ):WE S F n (eval (.Name x pos) F.env) ρ σ Q X:=by
  intro A s hR y;refine wpAny_Name ?_ (y.fr.nodbg _ _ h);rcases y.fr.kinds _ _ h with hk | hk
  · obtain ⟨m,hn,hm⟩:=y.fr.loc;obtain ⟨u,e,r⟩:=hm _ _ h hk;exact wpAny_loadName_local y.fr.kind hk hn e ⟨v,σ,Ze.refl ..,y,r,q⟩
  · obtain ⟨c,hl,_,hv⟩:=y.fr.cell _ _ h hk;obtain ⟨u,hc,r⟩:=hv v rfl;exact wpAny_loadName_cell y.fr.kind hk hl hc ⟨v,σ,Ze.refl ..,y,r,q⟩
theorem rInt {i:Int} {k pos} (q:Q (.int i) σ):WE S F n (eval (.Constant (.int i) k pos) F.env) ρ σ Q X:=by
  intro A s hR y;exact wpAny_Constant_int ⟨.int i,σ,Ze.toks ..,y.toks _,by first | exact rfl | exact ⟨_,rfl⟩,q⟩
theorem rStr {i:String} {k pos} (q:Q (.str (Str.ofString i)) σ):WE S F n (eval (.Constant (.str (Str.ofString i)) k pos) F.env) ρ σ Q X:=by
  intro A s hR y;show wpAny _ _ (mkText (Str.ofString i)) _ _ s;exact wpAny_mkText ⟨.str (Str.ofString i),σ,Ze.toks ..,y.toks _,by first | exact rfl | exact ⟨_,rfl⟩,q⟩
theorem rBool {b:Bool} {k pos} (q:Q (.bool b) σ):WE S F n (eval (.Constant (.bool b) k pos) F.env) ρ σ Q X:=by
  intro A s hR y;show wpAny _ _ (pure (Value.bool b)) _ _ s;exact wpAny_pure ⟨.bool b,σ,Ze.refl ..,y,by first | exact rfl | exact ⟨_,rfl⟩,q⟩
theorem rNone {k pos} (q:Q .none σ):WE S F n (eval (.Constant .none k pos) F.env) ρ σ Q X:=by
  intro A s hR y;show wpAny _ _ (pure Value.none) _ _ s;exact wpAny_pure ⟨.none,σ,Ze.refl ..,y,by first | exact rfl | exact ⟨_,rfl⟩,q⟩
noncomputable def Z6 (S:Sys) (F:Frm) (n:Nat×Nat) (t:Value->Value->Sem Value) (m1 m2:V) (ρ:Rho) (σ:MH) (Q:V->MH->Prop) (X:MH->Prop):Prop:=
  ∀u1 u2 A s,Yz F n A->St S F ρ σ s->Zv s.heap m1 u1->Zv s.heap m2 u2->wpAny S.M A (t u1 u2) (PW S F Zv ρ σ s Q) (EX S F X) s
theorem Zv.over {m:V} {u:Value} {σ':MH} {s s':Shared} {ρ:Rho} (r:Zv s.heap m u) (x:St S F ρ σ s) (y:Ze ZI σ s σ' s'):Zv s'.heap m u:=r.keep (y.vkeep0 x.g)
theorem Zc.over {m:List V} {u:List Value} {σ':MH} {s s':Shared} {ρ:Rho} (r:Zc s.heap m u) (x:St S F ρ σ s) (y:Ze ZI σ s σ' s'):Zc s'.heap m u:=r.keep (y.vkeep0 x.g)
theorem Jl {A:Around} {s:Shared} {t1 t2:Sem Value} {f:Value->Value->Sem Value} (hR:Yz F n A) (x:St S F ρ σ s)
    (h:WE S F n t1 ρ σ (λm1 σ1=>WE S F n t2 ρ σ1 (λm2 σ2=>Z6 S F n f m1 m2 ρ σ2 Q X) X) X) :
    wpAny S.M A t1 (λa s₁=>wpAny S.M A t2 (λb s₂=>wpAny S.M A (f a b) (PW S F Zv ρ σ s Q) (EX S F X) s₂) (EX S F X) s₁) (EX S F X) s:=by
  refine wpAny_mono (h A s hR x) ?_ λ_ _ z=>z;rintro u1 s1 ⟨m1,σ1,y1,x1,r1,q1⟩;refine wpAny_mono (q1 A s1 hR x1) ?_ λ_ _ z=>z;rintro u2 s2 ⟨m2,σ2,y2,x2,r2,q2⟩;refine wpAny_mono (q2 u1 u2 A s2 hR x2 (r1.over x1 y2) r2) ?_ λ_ _ z=>z;rintro v s3 ⟨m3,σ3,y3,x3,r3,q3⟩;exact ⟨m3,σ3,y1.trans (y2.trans y3),x3,r3,q3⟩
theorem rBin {l r:Expr} {op:Operator} {pos:Pos}
    (h:WE S F n (eval l F.env) ρ σ (λm1 σ1=>WE S F n (eval r F.env) ρ σ1 (λm2 σ2=>Z6 S F n (binaryOp op) m1 m2 ρ σ2 Q X) X) X):WE S F n (eval (.BinOp l op r pos) F.env) ρ σ Q X:=by
  intro A s hR x;exact wpAny_BinOp (Jl hR x h)
theorem rCmp {l r:Expr} {op:CmpOp} {pos:Pos}
    (h:WE S F n (eval l F.env) ρ σ (λm1 σ1=>WE S F n (eval r F.env) ρ σ1 (λm2 σ2=>Z6 S F n (compareOp op) m1 m2 ρ σ2 Q X) X) X) (hb:behindInMarks op r=false):WE S F n (eval (.Compare l [op] [r] pos) F.env) ρ σ Q X:=by
  intro A s hR x;exact wpAny_Compare1 (Jl hR x h) hb
theorem rSub {l r:Expr} {pos:Pos}
    (h:WE S F n (eval l F.env) ρ σ (λm1 σ1=>WE S F n (eval r F.env) ρ σ1 (λm2 σ2=>Z6 S F n (subscriptTail l r) m1 m2 ρ σ2 Q X) X) X):WE S F n (eval (.Subscript l r pos) F.env) ρ σ Q X:=by
  intro A s hR x;exact Subscript_ (Jl hR x h)
variable {QB:Bool->MH->Prop}
theorem tCmp {l r:Expr} {op:CmpOp} {pos:Pos} {whole:Sem Value}
    (h:WE S F n (eval l F.env) ρ σ (λm1 σ1=>WE S F n (eval r F.env) ρ σ1 (λm2 σ2=>Z6 S F n (compareOp op) m1 m2 ρ σ2 (λm σ'=>∃b,m=.bool b/\QB b σ') X) X) X) (hb:behindInMarks op r=false) :
    WB S F n (isTrue (.Compare l [op] [r] pos) F.env whole) ρ σ QB X:=by
  intro A s hR x;refine wpAny_isTrue_Compare1 ?_ hb;refine wpAny_mono (Jl hR x h) ?_ λ_ _ z=>z;intro a s1 h1;refine wpAny_mono h1 ?_ λ_ _ z=>z;intro b s2 h2;refine wpAny_mono h2 ?_ λ_ _ z=>z;rintro v s3 ⟨m,σ3,y,x3,r3,b,rfl,q⟩;obtain rfl:=r3;exact wpAny_truthy_bool ⟨b,σ3,y,x3,rfl,q⟩
theorem tNot {e:Expr} {pos:Pos} {whole:Sem Value} (h:WB S F n (isTrue e F.env (eval e F.env)) ρ σ (λb σ'=>QB (!b) σ') X):WB S F n (isTrue (.UnaryOp .Not e pos) F.env whole) ρ σ QB X:=by
  intro A s hR x;refine isTrue_not (wpAny_mono (h A s hR x) ?_ λ_ _ z=>z);rintro v s1 ⟨b,σ1,y,x1,rfl,q⟩;exact ⟨!v,σ1,y,x1,rfl,q⟩
theorem tPlain {e:Expr} {whole:Sem Value} (h:WE S F n whole ρ σ (λm σ'=>∃b,m=.bool b/\QB b σ') X)
    (hd:isTrue e F.env whole=(do let v<-whole;standAt e.pos;holding [v] (truthy v))):WB S F n (isTrue e F.env whole) ρ σ QB X:=by
  intro A s hR x;refine isTrue_plain (wpAny_mono (h A s hR x) ?_ λ_ _ z=>z) hd;rintro v s1 ⟨m,σ1,y,x1,r,b,rfl,q⟩;obtain rfl:=r;exact wpAny_truthy_bool ⟨b,σ1,y,x1,rfl,q⟩
theorem rIfExp {t a b:Expr} {pos:Pos} (h:WB S F n (isTrue t F.env (eval t F.env)) ρ σ (λc σ'=>if c=true then WE S F n (eval a F.env) ρ σ' Q X else WE S F n (eval b F.env) ρ σ' Q X) X) :
    WE S F n (eval (.IfExp t a b pos) F.env) ρ σ Q X:=by
  intro A s hR x;show wpAny _ _ (do if<-isTrue t F.env (eval t F.env) then eval a F.env else eval b F.env) _ _ s;refine wpAny_bind (wpAny_mono (h A s hR x) ?_ λ_ _ z=>z);rintro v s1 ⟨c,σ1,y,x1,rfl,q⟩;cases v with
  | true=>
    simp only [if_true] at q ⊢;refine wpAny_mono (q A s1 hR x1) ?_ λ_ _ z=>z;rintro u s2 ⟨m,σ2,y2,x2,r2,q2⟩;exact ⟨m,σ2,y.trans y2,x2,r2,q2⟩
  | false=>
    simp only [Bool.false_eq_true,if_false] at q ⊢;refine wpAny_mono (q A s1 hR x1) ?_ λ_ _ z=>z;rintro u s2 ⟨m,σ2,y2,x2,r2,q2⟩;exact ⟨m,σ2,y.trans y2,x2,r2,q2⟩
end
set_option tactic.hygienic false
theorem StG.inK {S:Sys} (ok:SysOk S) {σ:MH} {s:Shared} (g:StG S σ s):S.K.In s.heap:=λa o e=>g.base a o (ok.K a o e)
noncomputable def Zt (e:Expr):Bool:=!(e.ctorIdx==22)
noncomputable def Ku (args:List Expr) (env:Env):List (Bool×Sem Value):=args.map λe=>(false,eval e env)
theorem VB {env:Env}:∀{args:List Expr},args.all Zt=true->starEach args env=Ku args env:=λ{args}=>by
  induction args with
  | nil=>exact λ_=>rfl
  | cons e r ih=>
    intro h;have h:=Bool.and_eq_true_iff.mp (List.all_cons.symm.trans h);have h1:=h.1;have ih:=ih h.2;clear h;cases e <;> first | exact congrArg (List.cons (false,eval _ env)) ih | (exact absurd (show false=true from h1) Bool.false_ne_true)
theorem ZM {env:Env} {pos:Pos} {args:List Expr} (h:args.all Zt=true):backTo pos (starEach args env)=Ku args env:=by
  rw [VB h];unfold backTo Ku;rw [List.map_map];rfl
theorem ZG {args:List Expr} {env:Env}:(Ku args env).any (·.1)=false:=by
  unfold Ku;rw [List.any_map];simp
theorem ZQ {M:Model} {A:Around} {E:Value->Shared->Prop} {s:Shared} {f:Value} {ts:List (Bool×Sem Value)} {Q:Args->Shared->Prop} (hp:ts.any (·.1)=false)
    (h:wpAny M A (spliced ts) (λvs s'=>Q ⟨vs,[]⟩ s') E s):wpAny M A (evalArgs f true ts []) Q E s:=by
  unfold evalArgs;have go:wpAny M A (spliced ts >>= λa=>pure (a,(none:Option Value)) >>= λx=>holding (x.1++x.2.toList) (pure x.1 >>= λp=>pure (⟨p,[]⟩:Args))) Q E s:=
    wpAny_bind (wpAny_mono h (λvs s' h'=>wpAny_bind (wpAny_pure (wpAny_holding (wpAny_bind (wpAny_pure (wpAny_pure h')))))) λ_ _ z=>z)
  rcases ts with _ | ⟨⟨b,x⟩,r⟩
  · exact wpAny_bind (wpAny_mono h (λvs s' h'=>wpAny_bind (wpAny_pure (wpAny_holding (wpAny_bind (wpAny_pure (wpAny_bind (wpAny_pure (wpAny_pure h'))))))) ) λ_ _ z=>z)
  cases b
  · exact wpAny_bind (wpAny_mono h (λvs s' h'=>wpAny_bind (wpAny_pure (wpAny_holding (wpAny_bind (wpAny_pure (wpAny_bind (wpAny_pure (wpAny_pure h'))))))) ) λ_ _ z=>z)
  · simp at hp
section
variable {S:Sys} {F:Frm} {n:Nat×Nat} {ρ:Rho} {σ:MH} {Q:V->MH->Prop} {QL:List V->MH->Prop} {X:MH->Prop}
noncomputable def ZD (S:Sys) (F:Frm) (n:Nat×Nat) (args:List Expr) (ρ:Rho) (σ:MH) (Q:List V->MH->Prop) (X:MH->Prop):Prop:=WEs S F n (spliced (Ku args F.env)) ρ σ Q X
theorem aNil (q:QL [] σ):ZD S F n [] ρ σ QL X:=by
  intro A s hR x;exact Calls.spliced_nil ⟨[],σ,Ze.refl ..,x,Zc.nil,q⟩
theorem aCons {e:Expr} {r:List Expr} (h:WE S F n (eval e F.env) ρ σ (λm σ1=>ZD S F n r ρ σ1 (λms σ2=>QL (m::ms) σ2) X) X):ZD S F n (e::r) ρ σ QL X:=by
  intro A s hR x;show wpAny _ _ (spliced ((false,eval e F.env)::Ku r F.env)) _ _ s;refine Calls.spliced_cons (wpAny_mono (h A s hR x) ?_ λ_ _ z=>z);rintro u s1 ⟨m,σ1,y1,x1,r1,q1⟩;refine wpAny_mono (q1 A s1 hR x1) ?_ λ_ _ z=>z;rintro us s2 ⟨ms,σ2,y2,x2,r2,q2⟩;exact ⟨m::ms,σ2,y1.trans y2,x2,Zc.cons (r1.over x1 y2) r2,q2⟩
theorem rTup {es:List Expr} {k:Nat} {pos:Pos} (h:ZD S F n es ρ σ (λms σ1=>ms.length<=1000/\Q (.tup ms) σ1) X) (hp:es.all Zt=true):WE S F n (eval (.Tuple es k pos) F.env) ρ σ Q X:=by
  intro A s hR x;refine Tuple_ ?_;rw [ZM hp];refine wpAny_mono (h A s hR x) ?_ λ_ _ z=>z;rintro us s1 ⟨ms,σ1,y1,x1,r1,hl,q1⟩;have hl':=r1.length;refine wpAny_newTuple ?_ (Nat.le_trans (by lia:us.length<=1000) (by decide));obtain ⟨y2,x2⟩:=x1.push { cls:=.type "tuple",data:=.seq us.toArray } s1.toks;refine ⟨.tup ms,σ1,y1.trans y2,x2,?_,q1⟩;simp only [vr0,vr1,vr2,vr3,vr4,vr5,vr6,vr7];exact ⟨_,us.toArray,rfl,⟨_,Heap.get?_push_size _ rfl,rfl,_,rfl⟩,by simpa using r1.over x1 y2⟩
theorem rList {es:List Expr} {pos:Pos} (h:ZD S F n es ρ σ (λms σ1=>ms.length<=1000/\∀a,σ1 a=none->Q (.ref a) (σ1.set a (.list ms))) X) (hp:es.all Zt=true):WE S F n (eval (.List es pos) F.env) ρ σ Q X:=by
  intro A s hR x;refine List_ ?_;rw [ZM hp];refine wpAny_mono (h A s hR x) ?_ λ_ _ z=>z;rintro us s1 ⟨ms,σ1,y1,x1,r1,hl,q1⟩;have hl':=r1.length;refine wpAny_newList ?_ (Nat.le_trans (by lia:us.length<=1000) (by decide));have vk:ZJ s1.heap (s1.heap.push { cls:=.type "list",data:=.seq us.toArray }):=λ_ _ e _=>Heap.get?_push_of_some _ e;obtain ⟨y2,x2⟩:=x1.alloc { cls:=.type "list",data:=.seq us.toArray } (.list ms) s1.toks (by
    exact ⟨us,_,Heap.get?_push_size _ rfl,r1.keep vk⟩)
  exact ⟨.ref _,_,y1.trans y2,x2,by first | exact rfl | exact ⟨_,rfl⟩,q1 _ (x1.g.none_of_size (Nat.le_refl _))⟩
noncomputable def gOk (S:Sys) (F:Frm) (x:Str) (v:Value):Prop:=F.env.scope.names.lookup x=some .globalImplicit/\nsIn S.K mainGlobals x=some (some v)/\(x==("__debug__":Str))=false
noncomputable def bOk (S:Sys) (F:Frm) (x:Str) (v:Value):Prop:=F.env.scope.names.lookup x=some .globalImplicit/\nsIn S.K mainGlobals x=some none/\bootBuiltins x=some v/\x≠"__name__"/\(x==("__debug__":Str))=false
theorem gEval (ok:SysOk S) {x:Str} {pos:Pos} {v:Value} {A:Around} {s:Shared} {E:Value->Shared->Prop} {P:Value->Shared->Prop} (y:St S F ρ σ s) (h:gOk S F x v) (q:P v s):wpAny S.M A (eval (.Name x pos) F.env) P E s:=by
  obtain ⟨h1,h2,h3⟩:=h;obtain ⟨mg,hmg⟩:=ok.g;have e:mg x=some v:=mg_of ok.K hmg h2;exact Calls.Name_function_global y.fr.kind h1 (Calls.loadGlobal_global (by rw [y.fr.glob];exact KQ hmg λo=>y.g.base _ o) e q) h3
theorem bEval (ok:SysOk S) {x:Str} {pos:Pos} {v:Value} {A:Around} {s:Shared} {E:Value->Shared->Prop} {P:Value->Shared->Prop} (y:St S F ρ σ s) (h:bOk S F x v) (q:P v s):wpAny S.M A (eval (.Name x pos) F.env) P E s:=by
  obtain ⟨h1,h2,h3,h4,h5⟩:=h;obtain ⟨mg,hmg⟩:=ok.g;obtain ⟨mb,hmb,hb⟩:=ok.b;have e:mg x=none:=mg_none_of ok.K hmg h2;have e2:mb x=some v:=(hb x h4).trans h3;exact Calls.Name_function_global y.fr.kind h1 (Calls.loadGlobal_builtin (by rw [y.fr.glob];exact KQ hmg λo=>y.g.base _ o) e (by rw [y.fr.blt];exact KQ hmb λo=>y.g.base _ o) e2 q) h5
end
set_option tactic.hygienic false
theorem KL.of_le {k j k' j':Nat} {A:Around} (h:KL (k,j) A) (hk:k'<=k) (hj:40 * k'+j'<=40 * k+j):KL (k',j') A:=by
  obtain ⟨a,b,c,d,e⟩:=h;exact ⟨a,by simp only at *;lia,by simp only at *;lia,d,e⟩
theorem Fn.mono {S:Sys} {k k':Nat} {f:Value} {ms:List V} {σ:MH} {Q Q':V->MH->Prop} (h:Fn S k f ms σ Q) (hk:k<=k') (hq:∀m σ',Q m σ'->Q' m σ'):Fn S k' f ms σ Q':=by
  intro A s us hR g r;refine codeAny_mono (h A s us (hR.of_le hk (by lia)) g r) ?_;rintro r s' ⟨σ',u,m,e,a,b,c,d⟩;exact ⟨σ',u,m,e,a,b,c,hq m σ' d⟩
theorem Q5 {S:Sys} {h:Heap}:∀{ns:List Str} {ms:List V} {es:List DictEntry},Zm S h ns ms es->∀e∈es,∃n∈ns,∃t,e.key=.str n t:=λ{ns}=>by
  induction ns with
  | nil=>
    intro ms es r;cases ms with
    | nil=>unfold Zm at r;subst r;intro e he;cases he
    | cons _ _=>simp [Zm] at r
  | cons n ns ih=>
   intro ms es r;cases ms with
   | nil=>unfold Zm at r;subst r;intro e he;cases he
   | cons m ms=>
    obtain ⟨e,rest,rfl,⟨t,b⟩,c,d,f⟩:=r;intro e' he';rcases List.mem_cons.mp he' with rfl | he'
    · exact ⟨n,List.mem_cons_self,t,b⟩
    · obtain ⟨n',hn',x⟩:=ih f e' he';exact ⟨n',List.mem_cons_of_mem _ hn',x⟩
theorem Vv {S:Sys} {h:Heap} {ns:List Str} {ms:List V} {es:List DictEntry} (r:Zm S h ns ms es):es.any (·.refKey)=false:=by
  rw [List.any_eq_false];intro e he;obtain ⟨n,_,t,hk⟩:=Q5 r e he;simp [DictEntry.refKey,hk]
theorem fld_none {S:Sys} {h:Heap} {ns:List Str} {ms:List V} {es:List DictEntry} {x:Str} (r:Zm S h ns ms es) (hx:ns.contains x=false):getL x es=some none:=by
  unfold getL;have:es.find? (·.key.isStr x)=none:=by
    rw [List.find?_eq_none];intro e he hq;obtain ⟨n,hn,t,hk⟩:=Q5 r e he;rw [hk] at hq;simp only [Value.isStr,beq_iff_eq] at hq;subst hq;simp at hx;exact hx hn
  rw [this,Vv r];rfl
theorem fld_get {S:Sys} {h:Heap} {x:Str} {v:V}:∀{ns:List Str} {ms:List V} {es:List DictEntry} (i:Nat),Zm S h ns ms es->ns.Nodup->ns[i]?=some x->ms[i]?=some v->∃u,getL x es=some (some u)/\Zv h v u:=λ{ns}=>by
  induction ns with
  | nil=>intro ms es i r hn h1 h2;cases h1
  | cons n ns ih=>
    intro ms es i r hn h1 h2;cases ms with
    | nil=>cases h2
    | cons m ms=>
    obtain ⟨e,rest,rfl,⟨t,b⟩,c,d,f⟩:=r;have hn:=List.nodup_cons.mp hn;have nr:e.refKey=false:=by unfold DictEntry.refKey;rw [b]
    unfold getL at ih ⊢;cases i with
    | zero=>
      cases h1;cases h2;have nk:e.key.isStr n=true:=by rw [b];exact beq_self_eq_true n
      rw [List.find?_cons_of_pos (p:=λx:DictEntry=>x.key.isStr n) nk];exact ⟨e.val,rfl,d⟩
    | succ i=>
    have h1:ns[i]?=some x:=h1;obtain ⟨u,g,q⟩:=ih i f hn.2 h1 h2;refine ⟨u,?_,q⟩;have nk:e.key.isStr x=false:=by rw [b];exact beq_eq_false_iff_ne.mpr λe=>hn.1 (e▸List.mem_of_getElem? h1)
    rw [List.find?_cons_of_neg (p:=λx_1:DictEntry=>x_1.key.isStr x) (by rw [nk];exact Bool.false_ne_true),List.any_cons,nr,Bool.false_or];exact g
noncomputable def UI (K:Frag) (C:Addr) (x:Str):Bool:=
  hasDictIn K C&&(match findIn K (.ref C) x with | some attr=>noGet K attr | none=>false)&&findIn K (.ref C) "__getattribute__"==some (some (.builtin "object.__getattribute__"))
noncomputable def Up (K:Frag) (C:Addr) (x:Str) (f:Addr):Bool:=
  findIn K (.ref C) "__getattribute__"==some (some (.builtin "object.__getattribute__"))&&findIn K (.ref C) "__getattr__"==some none&&
  findIn K (.ref C) x==some (some (.ref f))&&typeIn K (.ref f)==some (.type "function")&&keepIn K (.ref f)
section
variable {S:Sys} {F:Frm} {n:Nat×Nat} {ρ:Rho} {σ:MH} {Q:V->MH->Prop} {QL:List V->MH->Prop} {X:MH->Prop}
theorem UP {h:Heap} {C d:Addr} {u:Value} {ms:List V} (r:Zv h (.inst C d) u) (o:XB S h d (.flds C ms)) :
    ∃x es k,u=.ref x/\PySem.W.InstAt h x (instObj C d) C (some (dictOf es k))/\Zm S h (S.flds C) ms es:=by
  simp only [vr0,vr1,vr2,vr3,vr4,vr5,vr6,vr7] at r;simp only [or0,or1,or2,or3,or4] at o;obtain ⟨x,rfl,hx⟩:=r;obtain ⟨es,k,hd,f⟩:=o;exact ⟨x,es,k,rfl,⟨hx,rfl,rfl,hd⟩,f⟩
theorem VQ {h:Heap} {m:V} {u:Value} (r:Zv h m u):handedIn u=true:=by
  cases m <;> simp only [vr0,vr1,vr2,vr3,vr4,vr5,vr6,vr7] at r
  · subst r;rfl
  · subst r;rfl
  · obtain ⟨_,rfl⟩:=r;rfl
  · obtain ⟨_,rfl⟩:=r;rfl
  · obtain ⟨_,_,rfl,_⟩:=r;rfl
  · subst r;rfl
  · obtain ⟨_,rfl,_⟩:=r;rfl
  · obtain ⟨_,_,_,_,rfl,_⟩:=r;rfl
theorem rAttr (ok:SysOk S) {e:Expr} {x:Str} {pos:Pos}
    (h:WE S F n (eval e F.env) ρ σ (λm σ1=>∃(C d:Addr) (ms:List V) (i:Nat) (v:V),m=.inst C d/\σ1 d=some (.flds C ms)/\UI S.K C x=true/\(S.flds C).Nodup/\(S.flds C)[i]?=some x/\ms[i]?=some v/\Q v σ1) X)
    (he:eval (.Attribute e x pos) F.env=(do
          let o<-eval e F.env
          standAt (Pos.atName pos)
          let r<-holding [o] (getAttr o x true)
          letTemporaryGo e o r
          pure r)):WE S F n (eval (.Attribute e x pos) F.env) ρ σ Q X:=by
  intro A s hR y;refine Attribute_any_ (wpAny_mono (h A s hR y) ?_ λ_ _ z=>z) he;rintro u s1 ⟨m,σ1,y1,x1,r1,C,d,ms,i,v,rfl,hd,ha,hn,h1,h2,q⟩;obtain ⟨x0,es,k,rfl,I,f⟩:=UP (S:=S) r1 (x1.g.objs _ _ hd).2;obtain ⟨w,hw,rw_⟩:=fld_get i f hn h1 h2;unfold UI at ha;simp only [Bool.and_eq_true,beq_iff_eq] at ha;obtain ⟨⟨a1,a2⟩,a3⟩:=ha;(set_option tactic.hygienic true in split at a2)
  · rename_i attr hattr;exact get_value (x1.g.inK ok) I a3 (findObj_own a1 hattr a2 hw) (VQ rw_) ⟨v,σ1,y1.trans (Ze.toks ..),x1.toks _,rw_,q⟩
  · cases a2
theorem ZD.run {args:List Expr} {A:Around} {s:Shared} {P:List Value->Shared->Prop} (h:ZD S F n args ρ σ QL X) (hR:Yz F n A) (x:St S F ρ σ s)
    (k:∀us ms σ1 s1,Ze ZI σ s σ1 s1->St S F ρ σ1 s1->Zc s1.heap ms us->QL ms σ1->P us s1):wpAny S.M A (spliced (Ku args F.env)) P (EX S F X) s:=
  wpAny_mono (h A s hR x) (λus s1 zz=>by obtain ⟨ms,σ1,a,b,c,d⟩:=zz;exact k us ms σ1 s1 a b c d) λ_ _ z=>z
theorem U8 {k:Nat} {f:Value} {ms:List V} {us:List Value} {A:Around} {s s0:Shared} {σ0:MH} (hf:Fn S k f ms σ Q) (hk:k<=n.1) (hR:Yz F n A) (x:St S F ρ σ s) (r:Zc s.heap ms us) (y0:Ze ZI σ0 s0 σ s) :
    wpAny S.M A (call f us []) (PW S F Zv ρ σ0 s0 Q) (EX S F X) s:=by
  refine wpAny_call (codeAny_mono (hf A s us (KL.of_le (k:=n.1) (j:=n.2) hR.2.1 hk (by lia)) x.g r) ?_);rintro r s' ⟨σ',u,m,rfl,a,b,c,d⟩;exact ⟨m,σ',y0.trans a,x.step a b,c,d⟩
theorem rCallFn (ok:SysOk S) {k:Nat} {f:Str} {a:Addr} {p pos:Pos} {args:List Expr} (hg:gOk S F f (.ref a)) (hp:args.all Zt=true) (hkp:keepIn S.K (.ref a)=true) (hk:k<=n.1)
    (h:ZD S F n args ρ σ (λms σ1=>Fn S k (.ref a) ms σ1 Q) X):WE S F n (eval (.Call (.Name f p) args [] pos) F.env) ρ σ Q X:=by
  intro A s hR x;refine Call_Name (ZM hp) (gEval ok x hg ?_);refine callWith_of (P:=S.K.In) (by rw [ZG];rfl) (keeps_K hkp) (ZQ ZG (h.run hR x ?_));intro us ms σ1 s1 y1 x1 r1 q1;exact ⟨x1.g.inK ok,U8 q1 hk hR x1 r1 y1⟩
theorem rMeth (ok:SysOk S) {k:Nat} {o:Expr} {name:Str} {apos pos:Pos} {args:List Expr} {pl:Sem Bool} (hp:args.all Zt=true) (hk:k<=n.1)
    (h:WE S F n (eval o F.env) ρ σ (λm σ1=>∃(C d f:Addr) (ms:List V),m=.inst C d/\σ1 d=some (.flds C ms)/\Up S.K C name f=true/\(S.flds C).contains name=false/\
      ZD S F n args ρ σ1 (λas σ2=>Fn S k (.ref f) (m::as) σ2 Q) X) X)
    (he:eval (.Call (.Attribute o name apos) args [] pos) F.env=(do
      let ov<-eval o F.env
      standAt apos.atName
      let (f,first)<-holding [ov] (getMethod ov name pl)
      callWith pos f first (backTo pos (starEach args F.env)) [])):WE S F n (eval (.Call (.Attribute o name apos) args [] pos) F.env) ρ σ Q X:=by
  intro A s hR x;refine MethodCall_ (wpAny_mono (h A s hR x) ?_ λ_ _ z=>z) he;rintro u s1 ⟨m,σ1,y1,x1,r1,C,d,f,ms,rfl,hd,hm,hc,q1⟩;obtain ⟨x0,es,j,rfl,I,fe⟩:=UP (S:=S) r1 (x1.g.objs _ _ hd).2;unfold Up at hm;simp only [Bool.and_eq_true,beq_iff_eq] at hm;obtain ⟨⟨⟨⟨a1,a2⟩,a3⟩,a4⟩,a5⟩:=hm;refine method_fn (x1.g.inK ok) I a1 a2 a3 a4 (by show (lookIn name (dictOf es j)).map _=_;rw [lookIn_dict,fld_none fe hc];rfl) ?_;rw [ZM hp];refine callWith_of (P:=S.K.In) (by rw [ZG];rfl) (keeps_K a5) (ZQ ZG (q1.run hR x1 ?_));intro us ms' σ2 s2 y2 x2 r2 q2;exact ⟨x2.g.inK ok,U8 q2 hk hR x2 (Zc.cons (r1.over x1 y2) r2) (y1.trans y2)⟩
noncomputable def ZN (S:Sys) (F:Frm) (n:Nat×Nat) (f:Value) (ms:List V) (ρ:Rho) (σ:MH) (Q:V->MH->Prop) (X:MH->Prop):Prop:=
  ∀us A s,Yz F n A->St S F ρ σ s->Zc s.heap ms us->wpAny S.M A (call f us []) (PW S F Zv ρ σ s Q) (EX S F X) s
theorem rCallB (ok:SysOk S) {f:Str} {id:String} {p pos:Pos} {args:List Expr} (hg:bOk S F f (.builtin id)) (hp:args.all Zt=true)
    (h:ZD S F n args ρ σ (λms σ1=>ZN S F n (.builtin id) ms ρ σ1 Q X) X):WE S F n (eval (.Call (.Name f p) args [] pos) F.env) ρ σ Q X:=by
  intro A s hR x;refine Call_Name (ZM hp) (bEval ok x hg ?_);refine Calls.callWith_builtin ZG (ZQ ZG (h.run hR x ?_));intro us ms σ1 s1 y1 x1 r1 q1;refine wpAny_mono (q1 us A s1 hR x1 r1) ?_ λ_ _ z=>z;rintro v s2 ⟨m,σ2,y2,x2,r2,q2⟩;exact ⟨m,σ2,y1.trans y2,x2,r2,q2⟩
theorem rCallT (ok:SysOk S) {f:Str} {T:String} {p pos:Pos} {args:List Expr} (hg:bOk S F f (.type T)) (hp:args.all Zt=true)
    (h:ZD S F n args ρ σ (λms σ1=>ZN S F n (.type T) ms ρ σ1 Q X) X):WE S F n (eval (.Call (.Name f p) args [] pos) F.env) ρ σ Q X:=by
  intro A s hR x;refine Call_Name (ZM hp) (bEval ok x hg ?_);refine PyProof.Rows.callWith_type ZG (ZQ ZG (h.run hR x ?_));intro us ms σ1 s1 y1 x1 r1 q1;refine wpAny_mono (q1 us A s1 hR x1 r1) ?_ λ_ _ z=>z;rintro v s2 ⟨m,σ2,y2,x2,r2,q2⟩;exact ⟨m,σ2,y1.trans y2,x2,r2,q2⟩
noncomputable def GetM (S:Sys) (m:V) (σ:MH) (name:Str) (id:String):Prop:=
  ∀u A s (pl:Sem Bool) (P:Value×List Value->Shared->Prop) (E:Value->Shared->Prop),StG S σ s->Zv s.heap m u->P (.builtin id,[u]) s->wpAny S.M A (getMethod u name pl) P E s
theorem W0 {id:String} {o:Expr} {name:Str} {apos pos:Pos} {args:List Expr} {pl:Sem Bool} (hp:args.all Zt=true)
    (h:WE S F n (eval o F.env) ρ σ (λm σ1=>GetM S m σ1 name id/\ZD S F n args ρ σ1 (λas σ2=>ZN S F n (.builtin id) (m::as) ρ σ2 Q X) X) X)
    (he:eval (.Call (.Attribute o name apos) args [] pos) F.env=(do
      let ov<-eval o F.env
      standAt apos.atName
      let (f,first)<-holding [ov] (getMethod ov name pl)
      callWith pos f first (backTo pos (starEach args F.env)) [])):WE S F n (eval (.Call (.Attribute o name apos) args [] pos) F.env) ρ σ Q X:=by
  intro A s hR x;refine MethodCall_ (wpAny_mono (h A s hR x) ?_ λ_ _ z=>z) he;rintro u s1 ⟨m,σ1,y1,x1,r1,hG,q1⟩;refine hG u A s1 pl _ _ x1.g r1 ?_;rw [ZM hp];refine Calls.callWith_builtin ZG (ZQ ZG (q1.run hR x1 ?_));intro us ms' σ2 s2 y2 x2 r2 q2;refine wpAny_mono (q2 (u::us) A s2 hR x2 (Zc.cons (r1.over x1 y2) r2)) ?_ λ_ _ z=>z;rintro v s3 ⟨m3,σ3,y3,x3,r3,q3⟩;exact ⟨m3,σ3,y1.trans (y2.trans y3),x3,r3,q3⟩
theorem getM_list {l:Addr} {ms:List V} {name:Str} {id:String} (hl:σ l=some (.list ms)) (slot:Slot "list" name id) (hty:typeOf (.builtin id)=pure (.type "method_descriptor")):GetM S (.ref l) σ name id:=by
  intro u A s pl P E g r q;obtain rfl:=r;have o:=(g.objs _ _ hl).2;obtain ⟨us,k,ho,_⟩:=o;exact getMethod_builtin ⟨_,ho,rfl⟩ PySem.F.plainAttrs_list slot hty (λa e=>by cases e;exact ⟨_,ho,rfl⟩) q
theorem getM_dict {l:Addr} {es:List (Key×V)} {name:Str} {id:String} (hl:σ l=some (.dict es)) (slot:Slot "dict" name id) (hty:typeOf (.builtin id)=pure (.type "method_descriptor")):GetM S (.ref l) σ name id:=by
  intro u A s pl P E g r q;obtain rfl:=r;have o:=(g.objs _ _ hl).2;obtain ⟨kvs,⟨o',es',ep,ho,hc,_⟩,_⟩:=o;exact getMethod_builtin ⟨_,ho,hc.1⟩ PySem.F.plainAttrs_dict slot hty (λa e=>by cases e;exact ⟨_,ho,hc.2.1⟩) q
theorem Uy {l:Addr} {es:List (List Key×V)} {name:Str} {id:String} (hl:σ l=some (.tdict es)) (slot:Slot "dict" name id) (hty:typeOf (.builtin id)=pure (.type "method_descriptor")):GetM S (.ref l) σ name id:=by
  intro u A s pl P E g r q;obtain rfl:=r;have o:=(g.objs _ _ hl).2;obtain ⟨kvs,⟨o',es',ep,ho,hc,_⟩,_⟩:=o;exact getMethod_builtin ⟨_,ho,hc.1⟩ PySem.F.plainAttrs_dict slot hty (λa e=>by cases e;exact ⟨_,ho,hc.2.1⟩) q
set_option maxRecDepth 100000 in
theorem getM_str {x:Str} {name:Str} {id:String} (slot:Slot "str" name id) (hty:typeOf (.builtin id)=pure (.type "method_descriptor")):GetM S (.str x) σ name id:=by
  intro u A s pl P E g r q;obtain ⟨t,rfl⟩:=r;have hT:=typeIs_str s x t;have hd:∀a,Value.str x t=.ref a->∃o,s.heap.get? a=some o/\o.dict=none:=λa e=>Value.noConfusion e;exact getMethod_builtin hT PySem.F.plainAttrs_str slot hty hd q
end
set_option tactic.hygienic false
inductive UpdR:Rho->Str->V->Rho->Prop
  | head {x:Str} {o:Option V} {r:Rho} {v:V}:UpdR ((x,o)::r) x v ((x,some v)::r)
  | tail {p:Str×Option V} {r r':Rho} {x:Str} {v:V}:UpdR r x v r'->UpdR (p::r) x v (p::r')
theorem UpdR.names {r r':Rho} {x:Str} {v:V} (u:UpdR r x v r'):r'.map Prod.fst=r.map Prod.fst:=by
  induction u with
  | head=>rfl
  | tail _ ih=>simp [ih]
theorem UpdR.mem {r r':Rho} {x:Str} {v:V} (u:UpdR r x v r'):∃o,(x,o)∈r:=by
  induction u with
  | head=>exact ⟨_,.head _⟩
  | tail _ ih=>obtain ⟨o,h⟩:=ih;exact ⟨o,.tail _ h⟩
theorem UpdR.spec {r r':Rho} {x:Str} {v:V} (u:UpdR r x v r') (hn:(r.map Prod.fst).Nodup):∀y o,(y,o)∈r'->(y=x/\o=some v)\/(y≠x/\(y,o)∈r):=by
  induction u with
  | head=>
    intro y o h;simp only [List.map_cons,List.nodup_cons] at hn;rcases List.mem_cons.mp h with h | h
    · cases h;exact .inl ⟨rfl,rfl⟩
    · refine .inr ⟨?_,.tail _ h⟩;intro e;exact hn.1 (e▸List.mem_map.mpr ⟨_,h,rfl⟩)
  | @tail p r r' x v u ih=>
    intro y o h;simp only [List.map_cons,List.nodup_cons] at hn;rcases List.mem_cons.mp h with h | h
    · refine .inr ⟨?_,by rw [h];exact .head _⟩;obtain ⟨o',hm⟩:=u.mem;intro e;have:p.1=x:=by rw [<-h];exact e
      exact hn.1 (this▸List.mem_map.mpr ⟨_,hm,rfl⟩)
    · rcases ih hn.2 y o h with h1 | ⟨h1,h2⟩
      · exact .inl h1
      · exact .inr ⟨h1,.tail _ h2⟩
theorem UpdR.old {r r':Rho} {x:Str} {v:V} (u:UpdR r x v r'):∀y o,(y,o)∈r'->∃o',(y,o')∈r:=by
  intro y o h;have:y∈r'.map Prod.fst:=List.mem_map.mpr ⟨_,h,rfl⟩;rw [u.names] at this;obtain ⟨⟨y',o'⟩,hm,rfl⟩:=List.mem_map.mp this;exact ⟨o',hm⟩
section
variable {S:Sys} {F:Frm} {n:Nat×Nat} {ρ:Rho} {σ:MH} {Q:MF->Rho->MH->Prop} {X:MH->Prop}
theorem St.store {ρ':Rho} {x:Str} {m:V} {u:Value} {A:Around} {E:Value->Shared->Prop} {s:Shared} (y:St S F ρ σ s) (U:UpdR ρ x m ρ') (r:Zv s.heap m u) (hF:F.isFn=true\/F.env.kindOf x=some .local)
    {P:Unit->Shared->Prop} (h:∀s',Ze F.own σ s σ s'->St S F ρ' σ s'->P () s'):wpAny S.M A (storeName F.env x u) P E s:=by
  obtain ⟨ox,hx⟩:=U.mem;obtain ⟨m0,hn,hm⟩:=y.fr.loc;have sp:=U.spec y.fr.nodup;-- a store at c (the frame's own dict or a cell of its own)
  have fin:∀(c:Addr) (h':Heap) (t:Nat),F.own c->Heap.SameBut c s.heap h'->S.h0.get? c=none->σ c=none->(∃o,h'.get? c=some o)->
      (ZJ s.heap h'->FrOk F ρ' h')->P () { s with heap:=h',toks:=t }:=by
    intro c h' t hc hs hlo hnone hal hfr;have st:Ze F.own σ s σ { s with heap:=h',toks:=t }:=
      ⟨λb o e _ hb=>.inl ((hs.2 b (λq=>hb (by rw [q];exact hc))).trans e),λb o e=>by
        by_cases q:b=c
        · subst q;exact hal
        · exact ⟨o,(hs.2 b q).trans e⟩,λ_ q=>.inl q,rfl⟩
    have vk:ZJ s.heap h':=y.vkeep st;have ne:∀b mo,σ b=some mo->b≠c:=λb mo e q=>by subst q;rw [hnone] at e;cases e
    refine h _ st ⟨⟨λa o e=>?_,λa mo e=>⟨(y.g.objs a mo e).1,(y.g.objs a mo e).2.keep (λo e'=>(hs.2 a (ne a mo e)).trans e') vk⟩,y.g.gens⟩,hfr vk,y.lo,y.los,y.locs,y.hist.trans st,y.outs.to λL z=>z.to z.un λo e=>st.keep _ o e z.un z.own⟩;exact (hs.2 a (λq=>by subst q;rw [hlo] at e;cases e)).trans (y.g.base a o e)
  rcases y.fr.kinds x ox hx with hk | hk
  · refine wpAny_storeName_local hk hn (λh' hn' hs=>fin F.env.locals h' _ (.inl rfl) hs y.lo.1 y.lo.2 (by obtain ⟨o,_,_,e,_⟩:=hn';exact ⟨o,e⟩) λvk=>?_) (by rw [y.fr.kind];rfl);have kc:∀(c:Addr) (v:Option Value),c≠F.env.locals->s.heap.IsCell c v->h'.IsCell c v:=λc v hc q=>q.sameBut hs hc;refine ⟨y.fr.kind,y.fr.glob,y.fr.blt,⟨_,hn',λz v hz hk'=>?_⟩,λz o hz hk'=>?_,λz o hz=>?_,by rw [U.names];exact y.fr.nodup,λc hc=>?_,λz c hc=>?_,y.fr.inj,λz o hz=>?_,y.fr.full,y.fr.lcell⟩
    · rcases sp z (some v) hz with ⟨rfl,e⟩ | ⟨hne,hz'⟩
      · cases e;exact ⟨u,by simp,r.keep vk⟩
      · obtain ⟨w,e,q⟩:=hm z v hz' hk';exact ⟨w,by rw [if_neg hne];exact e,q.keep vk⟩
    · obtain ⟨o',hz'⟩:=U.old z o hz;obtain ⟨c,hl,⟨w,hw⟩,hv⟩:=y.fr.cell z o' hz' hk';refine ⟨c,hl,⟨w,kc c w (y.fr.lcell z c hl) hw⟩,λv e=>?_⟩;rcases sp z o hz with ⟨rfl,_⟩ | ⟨hne,hz2⟩
      · rw [hk] at hk';cases hk'
      · obtain ⟨c2,hl2,_,hv2⟩:=y.fr.cell z o hz2 hk';rw [hl] at hl2;cases hl2;obtain ⟨w2,hw2,q⟩:=hv2 v e;exact ⟨w2,kc c _ (y.fr.lcell z c hl) hw2,q.keep vk⟩
    · obtain ⟨o',hz'⟩:=U.old z o hz;exact y.fr.kinds z o' hz'
    · obtain ⟨w,hw⟩:=y.fr.cellsAre c hc;refine ⟨w,kc c w (λq=>?_) hw⟩;subst q;obtain ⟨oc,ho,hd⟩:=hw;obtain ⟨ol,es,ep,ho2,hd2,_⟩:=hn;rw [ho] at ho2;cases ho2;rw [hd] at hd2;cases hd2
    · obtain ⟨w,hw⟩:=y.fr.allCells z c hc;exact ⟨w,kc c w (y.fr.lcell z c hc) hw⟩
    · obtain ⟨o',hz'⟩:=U.old z o hz;exact y.fr.nodbg z o' hz'
  · obtain ⟨c,hl,⟨v0,hc0⟩,_⟩:=y.fr.cell x ox hx hk;have hfn:F.isFn=true:=hF.resolve_right (by rw [hk];intro q;cases q);have hmem:=y.fr.full hfn x c hl;refine wpAny_storeName_cell y.fr.kind hk hl hc0 λh' hc' hs=>fin c h' s.toks (.inr hmem) hs (y.los x c hl).1 (y.los x c hl).2 (by obtain ⟨o,e,_⟩:=hc';exact ⟨o,e⟩) λvk=>?_;refine ⟨y.fr.kind,y.fr.glob,y.fr.blt,⟨m0,hn.sameBut hs (λq=>y.fr.lcell x c hl q.symm),λz v hz hk'=>?_⟩,λz o hz hk'=>?_,λz o hz=>?_,by rw [U.names];exact y.fr.nodup,λc2 hc2=>?_,λz c2 hc2=>?_,y.fr.inj,λz o hz=>?_,y.fr.full,y.fr.lcell⟩
    · rcases sp z (some v) hz with ⟨rfl,e⟩ | ⟨hne,hz'⟩
      · rw [hk] at hk';cases hk'
      · obtain ⟨w,e,q⟩:=hm z v hz' hk';exact ⟨w,e,q.keep vk⟩
    · rcases sp z o hz with ⟨rfl,e⟩ | ⟨hne,hz'⟩
      · exact ⟨c,hl,⟨_,hc'⟩,λv e'=>by rw [e] at e';cases e';exact ⟨u,hc',r.keep vk⟩⟩
      · obtain ⟨c2,hl2,⟨w,hw⟩,hv⟩:=y.fr.cell z o hz' hk';have hne2:c2≠c:=λq=>hne (y.fr.inj z x c (q▸hl2) hl);exact ⟨c2,hl2,⟨w,hw.sameBut hs hne2⟩,λv e=>by obtain ⟨w2,hw2,q⟩:=hv v e;exact ⟨w2,hw2.sameBut hs hne2,q.keep vk⟩⟩
    · obtain ⟨o',hz'⟩:=U.old z o hz;exact y.fr.kinds z o' hz'
    · by_cases q:c2=c
      · subst q;exact ⟨_,hc'⟩
      · obtain ⟨w,hw⟩:=y.fr.cellsAre c2 hc2;exact ⟨w,hw.sameBut hs q⟩
    · by_cases q:c2=c
      · subst q;exact ⟨_,hc'⟩
      · obtain ⟨w,hw⟩:=y.fr.allCells z c2 hc2;exact ⟨w,hw.sameBut hs q⟩
    · obtain ⟨o',hz'⟩:=U.old z o hz;exact y.fr.nodbg z o' hz'
theorem sNil (q:Q .next ρ σ):WS S F n (execs [] F.env) ρ σ Q X:=by
  intro A s hR y;exact wpAny_execs_nil ⟨.next,ρ,σ,Ze.refl ..,y,rfl,q⟩
theorem sCons {st:Stmt} {rest:List Stmt} (h:WS S F n (exec st F.env) ρ σ (λmf ρ1 σ1=>match mf with | .next=>WS S F n (execs rest F.env) ρ1 σ1 Q X | o=>Q o ρ1 σ1) X):WS S F n (execs (st::rest) F.env) ρ σ Q X:=by
  intro A s hR y;refine wpAny_execs_cons (wpAny_mono (h A s hR y) ?_ λ_ _ z=>z);rintro f s1 ⟨mf,ρ1,σ1,y1,x1,r1,q1⟩;cases mf with
  | next=>
    obtain rfl:=r1;refine wpAny_mono (q1 A s1 hR x1) ?_ λ_ _ z=>z;rintro f2 s2 ⟨mf2,ρ2,σ2,y2,x2,r2,q2⟩;exact ⟨mf2,ρ2,σ2,y1.trans y2,x2,r2,q2⟩
  | brk=>obtain rfl:=r1;exact ⟨.brk,ρ1,σ1,y1,x1,rfl,q1⟩
  | cont=>obtain rfl:=r1;exact ⟨.cont,ρ1,σ1,y1,x1,rfl,q1⟩
  | ret m=>obtain ⟨u,rfl,r1⟩:=r1;exact ⟨.ret m,ρ1,σ1,y1,x1,⟨u,rfl,r1⟩,q1⟩
theorem sPass {pos:Pos} (q:Q .next ρ σ):WS S F n (exec (.Pass pos) F.env) ρ σ Q X:=by
  intro A s hR y;exact wpAny_Pass ⟨.next,ρ,σ,Ze.refl ..,y,rfl,q⟩
theorem sRet {e:Expr} {pos:Pos} (h:WE S F n (eval e F.env) ρ σ (λm σ1=>Q (.ret m) ρ σ1) X):WS S F n (exec (.Return (some e) pos) F.env) ρ σ Q X:=by
  intro A s hR y;refine wpAny_Return_some (wpAny_mono (h A s hR y) ?_ λ_ _ z=>z);rintro u s1 ⟨m,σ1,y1,x1,r1,q1⟩;exact ⟨.ret m,ρ,σ1,y1.from_no,x1,⟨u,rfl,r1⟩,q1⟩
noncomputable def V.byValue:V->Bool
  | .none | .bool _ | .int _ | .str _=>true
  | _=>false
theorem sExpr {e:Expr} {pos:Pos} (h:WE S F n (eval e F.env) ρ σ (λm σ1=>m.byValue=true/\Q .next ρ σ1) X) (hs:swapsWith e none pos.line F.env=pure false):WS S F n (exec (.Expr e pos) F.env) ρ σ Q X:=by
  intro A s hR y;refine wpAny_Expr (wpAny_mono (h A s hR y) ?_ λ_ _ z=>z) (by simp [interactive,y.fr.kind]) hs;rintro u s1 ⟨m,σ1,y1,x1,r1,hb,q1⟩;have fin:PWX S F FRep σ s Q Flow.next s1:=⟨.next,ρ,σ1,y1.from_no,x1,rfl,q1⟩;cases m with
  | none=>obtain rfl:=r1;exact fin
  | bool b=>obtain rfl:=r1;exact fin
  | int i=>obtain ⟨t,rfl⟩:=r1;exact fin
  | str x=>obtain ⟨t,rfl⟩:=r1;exact fin
  | _=>exact absurd (show false=true from hb) Bool.false_ne_true
theorem sIf {t:Expr} {body orelse:List Stmt} {pos:Pos} (h:WB S F n (isTrue t F.env (eval t F.env)) ρ σ (λb σ1=>if b=true then WS S F n (execs body F.env) ρ σ1 Q X else WS S F n (execs orelse F.env) ρ σ1 Q X) X) :
    WS S F n (exec (.If t body orelse pos) F.env) ρ σ Q X:=by
  intro A s hR y;refine wpAny_If (wpAny_mono (h A s hR y) ?_ λ_ _ z=>z);rintro v s1 ⟨c,σ1,y1,x1,rfl,q⟩;cases v with
  | true=>
    simp only [if_true] at q ⊢;refine wpAny_mono (q A s1 hR x1) ?_ λ_ _ z=>z;rintro f2 s2 ⟨mf2,ρ2,σ2,y2,x2,r2,q2⟩;exact ⟨mf2,ρ2,σ2,y1.from_no.trans y2,x2,r2,q2⟩
  | false=>
    simp only [Bool.false_eq_true,if_false] at q ⊢;refine wpAny_mono (q A s1 hR x1) ?_ λ_ _ z=>z;rintro f2 s2 ⟨mf2,ρ2,σ2,y2,x2,r2,q2⟩;exact ⟨mf2,ρ2,σ2,y1.from_no.trans y2,x2,r2,q2⟩
theorem sSet {x:Str} {pos' pos:Pos} {e:Expr} (h:WE S F n (eval e F.env) ρ σ (λm σ1=>∃ρ',UpdR ρ x m ρ'/\Q .next ρ' σ1) X) (hF:F.isFn=true\/F.env.kindOf x=some .local)
    (hs:swapsWith e (some (.Name x pos')) pos.line F.env=pure false):WS S F n (exec (.Assign [.Name x pos'] e pos) F.env) ρ σ Q X:=by
  intro A s hR y;refine wpAny_Assign_Name (wpAny_mono (h A s hR y) ?_ λ_ _ z=>z) hs;rintro u s1 ⟨m,σ1,y1,x1,r1,ρ',U,q1⟩;exact x1.store U r1 hF λs2 y2 x2=>⟨.next,ρ',σ1,y1.from_no.trans y2,x2,rfl,q1⟩
end
set_option tactic.hygienic false
noncomputable def Qs (names:List (Str×NameKind)) (ps:List Str) (ms:List V):Rho:=
  names.filterMap λp=>if p.2==.local||p.2==.cell then some (p.1,(ps.zip ms).lookup p.1) else none
noncomputable def W7 (names:List (Str×NameKind)) (ps:List Str):Bool:=
  decide (names.map Prod.fst).Nodup&&decide ps.Nodup&&names.all (λp=>!(p.1==("__debug__":Str)))&&ps.all λx=>names.lookup x==some .local||names.lookup x==some .cell
theorem Xv {β:Type}:∀{l:List (Str×β)} {x:Str} {b:β},(l.map Prod.fst).Nodup->(x,b)∈l->l.lookup x=some b:=λ{l}=>by
  induction l with
  | nil=>intro x b hn h;cases h
  | cons yc r ih=>
    intro x b hn h;obtain ⟨y,c⟩:=yc;simp only [List.map_cons,List.nodup_cons] at hn;rw [List.lookup_cons];rcases List.mem_cons.mp h with h | h
    · cases h;simp
    · have:(x==y)=false:=by
        rw [beq_eq_false_iff_ne];intro e;exact hn.1 (e▸List.mem_map.mpr ⟨_,h,rfl⟩)
      rw [this];exact ih hn.2 h
theorem JS {names:List (Str×NameKind)} {ps:List Str} {ms:List V} (hn:(names.map Prod.fst).Nodup) {x:Str} {o:Option V} (h:(x,o)∈Qs names ps ms) :
    (names.lookup x=some .local\/names.lookup x=some .cell)/\o=(ps.zip ms).lookup x/\∃k,(x,k)∈names:=by
  unfold Qs at h;obtain ⟨⟨y,k⟩,hm,he⟩:=List.mem_filterMap.mp h;simp only at he;(set_option tactic.hygienic true in split at he)
  · rename_i hk;cases he;have l:=Xv hn hm;refine ⟨?_,rfl,k,hm⟩;rw [l];simp only [Bool.or_eq_true,beq_iff_eq] at hk;exact hk.imp (congrArg some) (congrArg some)
  · cases he
theorem UF {ps:List Str} {ms:List V}:∀{names:List (Str×NameKind)},(names.map Prod.fst).Nodup->((Qs names ps ms).map Prod.fst).Nodup:=λ{names}=>by
  induction names with
  | nil=>exact λ_=>List.nodup_nil
  | cons a r ih=>
    intro hn;have hn:=List.nodup_cons.mp hn;have ih:=ih hn.2;unfold Qs at ih ⊢;rw [List.filterMap_cons];(set_option tactic.hygienic true in split)
    · exact ih
    · rename_i z hz;(set_option tactic.hygienic true in split at hz)
      · cases hz;refine List.nodup_cons.mpr ⟨λhm=>hn.1 ?_,ih⟩;obtain ⟨p,hm',e⟩:=List.mem_map.mp hm;obtain ⟨p2,hm2,he⟩:=List.mem_filterMap.mp hm';(set_option tactic.hygienic true in split at he)
        · cases he;exact List.mem_map.mpr ⟨_,hm2,e⟩
        · cases he
      · cases hz
theorem QN {kindOf:Str->Option NameKind} {x:Str}:∀{ps:List Str} {us:List Value} {m:Str->Option Value},x∉ps->bindL kindOf (ps.zip us) m x=m x:=λ{ps}=>by
  induction ps with
  | nil=>intro us m _;rfl
  | cons p ps ih=>
   intro us m h;cases us with
   | nil=>rfl
   | cons u us=>
    simp only [List.mem_cons,not_or] at h;rw [List.zip_cons_cons,bindL,ih h.2];(set_option tactic.hygienic true in split)
    · simp [h.1]
    · rfl
theorem Kx {kindOf:Str->Option NameKind} {x:Str}:∀{ps:List Str} {us:List Value} {m:Str->Option Value},x∉ps->bindC kindOf (ps.zip us) m x=m x
  | [],us,m,_=>by simp [bindC]
  | p::ps,[],m,_=>by simp [bindC]
  | p::ps,u::us,m,h=>by
    simp only [List.mem_cons,not_or] at h;rw [List.zip_cons_cons,bindC,Kx h.2];(set_option tactic.hygienic true in split)
    · rfl
    · simp [h.1]
theorem bindL_at {kindOf:Str->Option NameKind} {h:Heap} {x:Str} {v:V} (hk:kindOf x=some .local):∀{ps:List Str} {ms:List V} {us:List Value} {m:Str->Option Value},ps.Nodup->Zc h ms us->
    (ps.zip ms).lookup x=some v->∃u,bindL kindOf (ps.zip us) m x=some u/\Zv h v u:=λ{ps}=>by
  induction ps with
  | nil=>intro ms us m _ r e;simp at e
  | cons p ps ih=>
   intro ms us m hn r e;cases ms with
   | nil=>simp at e
   | cons v' ms=>
    obtain ⟨u,us',rfl,a,b⟩:=r;rw [List.nodup_cons] at hn;rw [List.zip_cons_cons,List.lookup_cons] at e;rw [List.zip_cons_cons,bindL];cases hx:x==p with
    | true=>
      rw [hx] at e;cases e;have:=eq_of_beq hx;subst this;rw [QN hn.1,if_pos hk];exact ⟨u,by simp,a⟩
    | false=>
      rw [hx] at e;exact ih hn.2 b e
theorem bindC_at {kindOf:Str->Option NameKind} {h:Heap} {x:Str} {v:V} (hk:kindOf x=some .cell):∀{ps:List Str} {ms:List V} {us:List Value} {m:Str->Option Value},ps.Nodup->Zc h ms us->
    (ps.zip ms).lookup x=some v->∃u,bindC kindOf (ps.zip us) m x=some u/\Zv h v u:=λ{ps}=>by
  induction ps with
  | nil=>intro ms us m _ r e;cases e
  | cons p ps ih=>
    intro ms us m hn r e;cases ms with
    | nil=>cases e
    | cons v' ms=>
    obtain ⟨u,us',rfl,a,b⟩:=r;have hn:=List.nodup_cons.mp hn;rw [List.zip_cons_cons,List.lookup_cons] at e;rw [List.zip_cons_cons,bindC];cases hx:x==p with
    | true=>
      rw [hx] at e;cases e;have:=eq_of_beq hx;subst this;rw [Kx hn.1,if_neg (by rw [hk];intro q;cases q)];exact ⟨u,if_pos rfl,a⟩
    | false=>
      rw [hx] at e;exact ih hn.2 b e
noncomputable def Kj (cs:List (Str×Addr)):List Addr:=cs.filterMap λp=>cs.lookup p.1
theorem YQ {cs:List (Str×Addr)} {c:Addr}:c∈Kj cs ↔ ∃x,cs.lookup x=some c:=by
  unfold Kj;rw [List.mem_filterMap];exact ⟨λ⟨p,_,h⟩=>⟨p.1,h⟩,λ⟨x,h⟩=>⟨(x,c),mem_of_lookup h,h⟩⟩
noncomputable def retV:MF->V
  | .ret m=>m
  | _=>.none
theorem Q8 {m:V}:retV (.ret m)=m:=rfl
theorem Fn.intro {S:Sys} (ok:SysOk S) {k:Nat} {a:Addr} {oc:Value} {od:Option Addr} {osl:Array (Option Value)} {fd:FuncData} {body:List Stmt} {ps:List Str} {ms:List V} {σ:MH} {Q:V->MH->Prop} {ρ₀:Rho}
    (ho:S.K.lookup a=some ⟨oc,od,.func fd,osl⟩) (hcd:codeIn S.K fd.code fd.qualname=true) (hbody:fd.body=.stmts body) (hclo:fd.closure=[]) (hgl:fd.globals=mainGlobals) (hbl:fd.builtins=builtinsNs)
    (hco:fd.scope.isCoroutine=false) (hgen:fd.scope.isGenerator=false) (hk:fd.scope.kind=.function)
    (hbind:∀us:List Value,us.length=ms.length->bindArgs fd ⟨us,[]⟩=pure (ps.zip us))
    (hok:W7 fd.scope.names ps=true) (hρ:Qs fd.scope.names ps ms=ρ₀)
    (h:∀F:Frm,F.env.scope=fd.scope->F.isFn=true->WS S F (k,15) (execs body F.env) ρ₀ σ (λmf _ σ'=>Q (retV mf) σ') (λ_=>False)):Fn S (k+1) (.ref a) ms σ Q:=by
  subst hρ;intro A s us hR g r;unfold W7 at hok;simp only [Bool.and_eq_true,decide_eq_true_eq,List.all_eq_true] at hok;obtain ⟨⟨⟨hn,hps⟩,hdbg⟩,hkinds⟩:=hok;have hus:=r.length;obtain ⟨R1,R2,R3,⟨fr,R4⟩,R5⟩:=hR;have hlo:∀b,s.heap.objs.size<=b->S.h0.get? b=none:=λb hb=>g.base_none (Jd hb);have X:=g.inK ok;refine codeAny_call_cells (fd:=fd) (binds:=ps.zip us) (by show A.depth<1000;simp only at R2;lia) (X _ _ ho) rfl (ok.nolimit.keeps g.base) (codeRec_of X hcd) hbody (hbind us hus.symm) hclo (λx hx=>?_) (λs₁ IC=>?_) hco hgen hk
  · have hx':=hkinds x.1 (by
      obtain ⟨a',b'⟩:=x;exact (List.of_mem_zip hx).1)
    simp only [Bool.or_eq_true,beq_iff_eq] at hx';rcases hx' with h1 | h1
    · exact .inl h1
    · exact .inr ⟨h1,cellsFrom_some _ _ _ (.inl h1)⟩
  · have henv:∀x,(callEnvC fd s.heap.objs.size a).kindOf x=fd.scope.names.lookup x:=λ_=>rfl;obtain ⟨h₁,tk,hs₁⟩:=IC.toInCall.same;have hkeep:=IC.toInCall.keep;let F:Frm:=⟨callEnvC fd s.heap.objs.size a,Kj (callEnvC fd s.heap.objs.size a).cells,true,σ,s,none⟩
    have hL:F.env.locals=s.heap.objs.size:=rfl;have hLlt:s.heap.objs.size<s₁.heap.objs.size:=IC.toInCall.ns.lt;have hcells:∀x c,F.env.cells.lookup x=some c->s.heap.objs.size<c:=λx c hc=>IC.above x c (mem_of_lookup hc);have hst:Ze F.own σ s σ s₁:=⟨λb o e _ _=>.inl (hkeep b o e),λb o e=>⟨o,hkeep b o e⟩,λ_ q=>.inl q,by rw [hs₁]⟩;have vk:ZJ s.heap s₁.heap:=λb o e _=>hkeep b o e;have hfr:FrOk F (Qs fd.scope.names ps ms) s₁.heap:=by
      refine ⟨hk,hgl,hbl,⟨_,IC.toInCall.ns,λx v hx hkx=>?_⟩,λx o hx hkx=>?_,λx o hx=>?_,UF hn,λc hc=>?_,λx c hc=>⟨_,IC.cell x c hc⟩,λx y c h1 h2=>name_of_addr IC.apart (mem_of_lookup h1) (mem_of_lookup h2),λx o hx=>?_,λ_ x c hc=>YQ.mpr ⟨x,hc⟩,λx c hc=>Nat.ne_of_gt (hcells x c hc)⟩
      · obtain ⟨_,e,_⟩:=JS hn hx;exact bindL_at hkx hps (r.keep vk) e.symm
      · obtain ⟨_,e,_⟩:=JS hn hx;have hsome:((cellsFrom (s.heap.objs.size+1) fd.scope.names []).lookup x).isSome=true:=cellsFrom_some _ _ _ (.inl hkx);obtain ⟨c,hc⟩:=Option.isSome_iff_exists.mp hsome;refine ⟨c,hc,⟨_,IC.cell x c hc⟩,λv hv=>?_⟩;subst hv;obtain ⟨u,e1,e2⟩:=bindC_at (m:=λ_=>none) hkx hps (r.keep vk) e.symm;exact ⟨u,by rw [<-e1];exact IC.cell x c hc,e2⟩
      · exact (JS hn hx).1
      · obtain ⟨x,hx⟩:=YQ.mp hc;exact ⟨_,IC.cell _ _ hx⟩
      · obtain ⟨_,_,k',hm⟩:=JS hn hx;have:=hdbg _ hm;simpa using this
    have hSt:St S F (Qs fd.scope.names ps ms) σ s₁:=by
      refine ⟨⟨λb o e=>hkeep b o (g.base b o e),λb mo e=>⟨(g.objs b mo e).1,(g.objs b mo e).2.keep (λo e'=>hkeep b o e') vk⟩,by rw [hs₁];exact g.gens⟩,hfr,⟨hlo _ (Nat.le_refl _),g.none_of_size (Nat.le_refl _)⟩,λx c hc=>⟨hlo _ (Nat.le_of_lt (hcells x c hc)),g.none_of_size (Nat.le_of_lt (hcells x c hc))⟩,λc hc=>?_,hst,(λl e=>by cases e)⟩;obtain ⟨x,hx⟩:=YQ.mp hc;have this:s.heap.objs.size<c:=hcells x c hx;exact ⟨hlo _ (Nat.le_of_lt this),g.none_of_size (Nat.le_of_lt this)⟩
    have ownHi:∀b,F.own b->s.heap.objs.size<=b:=by
      rintro b (rfl | hb)
      · exact Nat.le_refl _
      · obtain ⟨x,hx⟩:=YQ.mp hb;exact Nat.le_of_lt (hcells x b hx)
    refine wpAny_mono (h F rfl rfl (A.deeper (callEnvC fd s.heap.objs.size a)) s₁ ⟨R1,⟨R1,by show A.depth+1+k<1000;simp only at R2;lia,by show A.units+3+40 * k+15+70<9900;simp only at R3;lia,⟨_,by show A.frames.map _=_;rw [R4];rfl⟩,R5⟩,(λl e=>by cases e)⟩ hSt) ?_ ?_
    · rintro f s2 ⟨mf,ρ2,σ2,y2,x2,r2,q2⟩;have stp:Ze ZI σ s σ2 s2:=⟨λb o e hb _=>x2.hist.keep b o e hb (λq=>absurd (Heap.lt_size e) (Nat.not_lt.mpr (ownHi b q))),x2.hist.alive,x2.hist.dom,x2.hist.os⟩;cases mf with
      | next=>obtain rfl:=r2;exact ⟨σ2,_,.none,rfl,stp,x2.g,by first | exact rfl | exact ⟨_,rfl⟩,q2⟩
      | brk=>obtain rfl:=r2;exact ⟨σ2,_,.none,rfl,stp,x2.g,by first | exact rfl | exact ⟨_,rfl⟩,q2⟩
      | cont=>obtain rfl:=r2;exact ⟨σ2,_,.none,rfl,stp,x2.g,by first | exact rfl | exact ⟨_,rfl⟩,q2⟩
      | ret m=>obtain ⟨u,rfl,r2⟩:=r2;exact ⟨σ2,u,m,rfl,stp,x2.g,r2,q2⟩
    · rintro e s2 ⟨_,_,_,_,hx⟩;exact hx.elim
set_option tactic.hygienic false
noncomputable def YF (e:Expr):Bool:=e.ctorIdx==25
noncomputable def Yb (e:Expr):Bool:=e.ctorIdx==23
theorem XR {e:Expr} (h:Yb e=true) (it v:Value):letOwnedTupleGo e it v=pure ():=Expr.Name.elim e (eq_of_beq h) λ_ _=>rfl
theorem YD {e:Expr} (h:YF e=true):∃es k p,e=.Tuple es k p:=Expr.Tuple.elim e (eq_of_beq h) λes k p=>⟨es,k,p,rfl⟩
set_option genInjectivity false in
structure Jn (S:Sys) where
  it:Value
  fp:List Addr
  G:MH->Prop
  pairs:Bool
  At:List V->Heap->Prop
  frame:∀items h h',At items h->(∀b∈fp,∀o,h.get? b=some o->h'.get? b=some o)->ZJ h h'->At items h'
  live2:∀items h,At items h->∀b∈fp,∃o,h.get? b=some o/\¬ XY o/\¬ NsD o
  next:∀(target:Expr) (A:Around) (E:Value->Shared->Prop) (σ:MH) (s:Shared) (x:V) (rest:List V) (P:Value->Shared->Prop),(YF target=true\/(Yb target=true/\pairs=false))->A.handled=none->StG S σ s->G σ->At (x::rest) s.heap->
    (∀h' t u,(∀b o,s.heap.get? b=some o->b∉fp->h'.get? b=some o)->Zv h' x u->At rest h'->P u { s with heap:=h',toks:=t })->
    wpAny S.M A (pyNext it) (λr s1=>∃v,r=some v/\wpAny S.M A (letOwnedTupleGo target it v) (λ_ s2=>P v s2) E s1) E s
  stop:∀(A:Around) (E:Value->Shared->Prop) (σ:MH) (s:Shared) (P:Option Value->Shared->Prop),A.handled=none->StG S σ s->G σ->At [] s.heap->
    (∀h' t,(∀b o,s.heap.get? b=some o->b∉fp->h'.get? b=some o)->P none { s with heap:=h',toks:=t })->wpAny S.M A (pyNext it) P E s
  self:∀(A:Around) (E:Value->Shared->Prop) (s:Shared) (items:List V) (P:Value->Shared->Prop),At items s.heap->P it s->wpAny S.M A (pyIter it) P E s
theorem Jn.live {S:Sys} (J:Jn S) (items:List V) (h:Heap) (a:J.At items h):∀b∈J.fp,∃o,h.get? b=some o/\¬ XY o:=λb hb=>by
  obtain ⟨o,e,n,_⟩:=J.live2 items h a b hb;exact ⟨o,e,n⟩
theorem Jn.nd {S:Sys} (J:Jn S) {items:List V} {h:Heap} (a:J.At items h) {b:Addr} (hb:b∈J.fp) {o:Obj} (ho:h.get? b=some o):¬ NsD o:=by
  obtain ⟨o',e,_,n⟩:=J.live2 items h a b hb;rw [ho] at e;cases e;exact n
theorem Y9 {o:Obj} {vs:Array Value} (hd:o.data=.fields vs):¬ NsD o:=λq=>by obtain ⟨_,_,e⟩:=q;rw [hd] at e;cases e
theorem Zq {h:Heap} {a:Addr} {o:Obj} {vs:Array Value} (_:h.get? a=some o) (hd:o.data=.fields vs) (hc:o.cls≠.type "range"):¬ XY o:=by
  rintro (⟨_,_,q,_⟩ | q | ⟨_,_,q⟩)
  · rw [hd] at q;cases q
  · rw [hd] at q;cases q
  · exact hc q
noncomputable def listIter (S:Sys) (I l:Addr) (all:List V):Jn S where
  it:=.ref I
  fp:=[I]
  G:=λσ=>σ l=some (.list all)
  pairs:=false
  At:=λitems h=>∃i,h.IsListIter I l i/\all.drop i=items
  frame:=λitems h h' zz k _=>by obtain ⟨i,⟨o,ho,r⟩,e⟩:=zz;exact ⟨i,⟨o,k I (by simp) o ho,r⟩,e⟩
  live2:=λitems h zz b hb=>by
    obtain ⟨i,⟨o,ho,hc,hd⟩,e⟩:=zz;simp only [List.mem_singleton] at hb;subst hb;exact ⟨o,ho,Zq ho hd (by rw [hc];intro q;injection q with q;exact absurd q (by decide)),Y9 hd⟩
  next:=λtarget A E σ s x rest P ht hA g hG zz h=>by
    obtain ⟨i,hit,e⟩:=zz;have o:=(g.objs _ _ hG).2;obtain ⟨us,k,ho,r⟩:=o;have hx:all[i]?=some x:=by have:=congrArg (λl=>l[0]?) e;simpa using this
    obtain ⟨u,hu,ru⟩:=r.get i hx;have hL:s.heap.IsList l us.toArray:=⟨_,ho,rfl,_,rfl⟩;have hr:all.drop (i+1)=rest:=by have:=congrArg (List.drop 1) e;simpa using this
    refine wpAny_pyNext_list_item hit hL (x:=u) (by simpa using hu) λh' hit' hs=>⟨u,rfl,?_⟩;have fin:P u { s with heap:=h' }:=h h' s.toks u (λb o hb hne=>(hs.2 b (by simpa using hne)).trans hb) (ru.keep λb o hb hv=>(hs.2 b (λq=>by
        subst q;obtain ⟨o',ho',hc',hd'⟩:=hit;rw [ho'] at hb;cases hb;exact Zq ho' hd' (by rw [hc'];intro q;injection q with q;exact absurd q (by decide)) hv)).trans hb) ⟨i+1,hit',hr⟩
    rcases ht with ht | ⟨ht,_⟩
    · obtain ⟨es,kk,p,rfl⟩:=YD ht;cases u with
      | ref a=>exact wpAny_letOwnedTupleGo_listiter hit' fin
      | _=>exact wpAny_pure fin
    · rw [XR ht];exact wpAny_pure fin
  stop:=λA E σ s P hA g hG zz h=>by
    obtain ⟨i,hit,e⟩:=zz;have o:=(g.objs _ _ hG).2;obtain ⟨us,k,ho,r⟩:=o;have hL:s.heap.IsList l us.toArray:=⟨_,ho,rfl,_,rfl⟩;refine wpAny_pyNext_list_end hA hit hL ?_ λh' hs=>h h' s.toks λb o hb hne=>hs b o (by simpa using hne) hb;have:all.length<=i:=by simpa using e
    simp only [List.getElem?_toArray,List.getElem?_eq_none_iff];rw [<-r.length];exact this
  self:=λA E s items P zz h=>by obtain ⟨i,hit,_⟩:=zz;exact wpAny_pyIter_listiter hit h
theorem VO {M:Model} {A:Around} {E:Value->Shared->Prop} {s:Shared} {elts:List Expr} {x1} {pos:Pos} {I t:Addr} {u:Value} {i:Nat} {Q:Unit->Shared->Prop} (hit:s.heap.IsTupleIter I t i) (hQ:Q () s) :
    wpAny M A (letOwnedTupleGo (.Tuple elts x1 pos) (.ref I) u) Q E s:=by
  obtain ⟨o,ho,hc,hd⟩:=hit;cases u with
  | ref T=>
    unfold letOwnedTupleGo;refine wpAny_bind (wpAny_load ho ?_);rw [hc,hd];show wpAny _ A (if (["enumerate","zip","dict_itemiterator","dict_reverseitemiterator","odict_iterator","itertools.zip_longest","itertools.pairwise"].contains "tuple_iterator"&&
        (#[.ref t,.int i 0]:Array Value)[0]?==some (rawInt T))=true then _ else _) Q E s
    rw [if_neg (by
      intro h;rw [show (["enumerate","zip","dict_itemiterator","dict_reverseitemiterator","odict_iterator","itertools.zip_longest","itertools.pairwise"].contains "tuple_iterator")=false from by decide,Bool.false_and] at h;cases h)]
    exact wpAny_pure hQ
  | _=>exact wpAny_pure hQ
noncomputable def tupIter (S:Sys) (I t:Addr) (all:List V):Jn S where
  it:=.ref I
  fp:=[I]
  G:=λ_=>True
  pairs:=false
  At:=λitems h=>∃i its,h.IsTupleIter I t i/\IsTup h t its/\Zc h all its.toList/\all.drop i=items
  frame:=λitems h h' zz k v=>by obtain ⟨i,its,⟨o,ho,r⟩,b,c,e⟩:=zz;exact ⟨i,its,⟨o,k I (by simp) o ho,r⟩,YZ b v,c.keep v,e⟩
  live2:=λitems h zz b hb=>by
    obtain ⟨i,its,⟨o,ho,hc,hd⟩,_,_,e⟩:=zz;simp only [List.mem_singleton] at hb;subst hb;exact ⟨o,ho,Zq ho hd (by rw [hc];intro q;injection q with q;exact absurd q (by decide)),Y9 hd⟩
  next:=λtarget A E σ s x rest P ht hA g hG zz h=>by
    obtain ⟨i,its,hit,hT,r,e⟩:=zz;have hx:all[i]?=some x:=by have:=congrArg (λl=>l[0]?) e;simpa using this
    obtain ⟨u,hu,ru⟩:=r.get i hx;have hr:all.drop (i+1)=rest:=by have:=congrArg (List.drop 1) e;simpa using this
    refine wpAny_pyNext_tuple_item hit hT (x:=u) (by simpa using hu) λh' hit' hs=>⟨u,rfl,?_⟩;have vk:ZJ s.heap h':=λb o hb hv=>(hs.2 b (λq=>by
        subst q;obtain ⟨o',ho',hc',hd'⟩:=hit;rw [ho'] at hb;cases hb;exact Zq ho' hd' (by rw [hc'];intro q;injection q with q;exact absurd q (by decide)) hv)).trans hb
    have fin:P u { s with heap:=h' }:=h h' s.toks u (λb o hb hne=>(hs.2 b (by simpa using hne)).trans hb) (ru.keep vk) ⟨i+1,its,hit',YZ hT vk,r.keep vk,hr⟩;rcases ht with ht | ⟨ht,_⟩
    · obtain ⟨es,kk,p,rfl⟩:=YD ht;exact VO hit' fin
    · rw [XR ht];exact wpAny_pure fin
  stop:=λA E σ s P hA g hG zz h=>by
    obtain ⟨i,its,hit,hT,r,e⟩:=zz;refine wpAny_pyNext_tuple_end hA hit hT ?_ λh' hs=>h h' s.toks λb o hb hne=>hs b o (by simpa using hne) hb;have:all.length<=i:=by simpa using e
    have hl:=r.length;rw [Array.getElem?_eq_none_iff,<-Array.length_toList,<-hl];exact this
  self:=λA E s items P zz h=>by obtain ⟨i,its,hit,_⟩:=zz;exact wpAny_pyIter_tupleiter hit h
noncomputable def YC (x:Int):Nat->List V
  | 0=>[]
  | k+1=>.int x::YC (x+1) k
noncomputable def rangeIter (S:Sys) (I:Addr):Jn S where
  it:=.ref I
  fp:=[I]
  G:=λ_=>True
  pairs:=false
  At:=λitems h=>∃x k,IsRangeIter h I x (k:Nat) 1/\items=YC x k
  frame:=λitems h h' zz k v=>by obtain ⟨x,kk,ho,e⟩:=zz;exact ⟨x,kk,k I (by simp) _ ho,e⟩
  live2:=λitems h zz b hb=>by
    obtain ⟨x,kk,ho,e⟩:=zz;simp only [List.mem_singleton] at hb;subst hb;exact ⟨_,ho,Zq ho rfl (by intro q;injection q with q;exact absurd q (by decide)),Y9 rfl⟩
  next:=λtarget A E σ s x rest P ht hA g hG zz h=>by
    obtain ⟨y,k,hit,e⟩:=zz;cases k with
    | zero=>simp [YC] at e
    | succ k=>
      simp only [YC,List.cons.injEq] at e;obtain ⟨rfl,rfl⟩:=e;refine wpAny_pyNext_range_item hit (by lia) λh' hit' hs=>⟨_,rfl,?_⟩;have fin:P (.int y s.toks) { s with heap:=h',toks:=s.toks+1 }:=h h' (s.toks+1) _ (λb o hb hne=>(hs.2 b (by simpa using hne)).trans hb) (by first | exact rfl | exact ⟨_,rfl⟩) ⟨y+1,k,by
        have:((k+1:Nat):Int)-1=(k:Nat):=by lia
        rw [<-this];exact hit',rfl⟩
      rcases ht with ht | ⟨ht,_⟩
      · obtain ⟨es,kk,p,rfl⟩:=YD ht;exact wpAny_pure fin
      · rw [XR ht];exact wpAny_pure fin
  stop:=λA E σ s P hA g hG zz h=>by
    obtain ⟨y,k,hit,e⟩:=zz;cases k with
    | zero=>exact wpAny_pyNext_range_end hA hit (by lia) λh' hs=>h h' s.toks λb o hb hne=>hs b o (by simpa using hne) hb
    | succ k=>simp [YC] at e
  self:=λA E s items P zz h=>by
    obtain ⟨x,k,hit,_⟩:=zz;have hT:s.TypeIs (.ref I) "range_iterator":=⟨_,hit,rfl⟩;refine wpAny_pyIter_slot hT PySem.F.slot_range_iterator_iter (wpAny_call_entry PySem.F.slot_range_iterator_iter hT PySem.F.entry_range_iterator_iter ?_ (PySem.F.args_range_iterator_iter_1 _));show wpAny _ _ (ret (.ref I)) _ _ s;exact wpAny_pure ⟨_,rfl,"range_iterator",_,hT,PySem.F.slot_range_iterator_next.lookup,h⟩
noncomputable def Kf (S:Sys) (m:V) (σ:MH) (items:List V) (G:MH->Prop) (pairs:Bool):Prop:=
  ∀(u:Value) (A:Around) (E:Value->Shared->Prop) (s:Shared) (P:Value->Shared->Prop),StG S σ s->Zv s.heap m u->
    (∀(I:Jn S) h' t,I.G=G->I.pairs=pairs->(∀b∈I.fp,s.heap.get? b=none)->(∀b o,s.heap.get? b=some o->h'.get? b=some o)->I.At items h'->P I.it { s with heap:=h',toks:=t })->
    wpAny S.M A (pyIter u) P E s
theorem mk_list {S:Sys} {σ:MH} {l:Addr} {ms:List V} (hl:σ l=some (.list ms)):Kf S (.ref l) σ ms (λσ=>σ l=some (.list ms)) false:=by
  intro u A E s P g r h;obtain rfl:=r;have o:=(g.objs _ _ hl).2;obtain ⟨us,k,ho,r⟩:=o;refine wpAny_pyIter_list ⟨_,ho,rfl,_,rfl⟩ ?_;exact h (listIter S s.heap.objs.size l ms) _ s.toks rfl rfl (λb hb=>by
    have:b=s.heap.objs.size:=List.mem_singleton.mp hb;subst this;exact Zf _) (λb o e=>Heap.get?_push_of_some _ e) ⟨0,⟨_,Heap.get?_push_size _ rfl,rfl,rfl⟩,rfl⟩
theorem mk_tup {S:Sys} {σ:MH} {ms:List V}:Kf S (.tup ms) σ ms (λ_=>True) false:=by
  intro u A E s P g r h;obtain ⟨x,its,rfl,hT,r⟩:=r;refine wpAny_pyIter_tuple hT ?_;have vk:ZJ s.heap (s.heap.push { cls:=.type "tuple_iterator",data:=.fields #[.ref x,.int 0 0] }):=λb o e _=>Heap.get?_push_of_some _ e;exact h (tupIter S s.heap.objs.size x ms) _ s.toks rfl rfl (λb hb=>by
    have:b=s.heap.objs.size:=List.mem_singleton.mp hb;subst this;exact Zf _) (λb o e=>Heap.get?_push_of_some _ e) ⟨0,its,⟨_,Heap.get?_push_size _ rfl,rfl,rfl⟩,YZ hT vk,r.keep vk,rfl⟩
theorem mk_range {S:Sys} {σ:MH} {a b:Int} (ha:-1000000<=a) (ha':a<=1000000) (hb:-1000000<=b) (hb':b<=1000000):Kf S (.range a b) σ (YC a (b-a).toNat) (λ_=>True) false:=by
  intro u A E s P g r h;obtain ⟨x,t1,t2,t3,rfl,hr⟩:=r;have hsz:Builtin.Range.rangeSize a b 1=((b-a).toNat:Nat):=by
    unfold Builtin.Range.rangeSize;rw [if_pos (by decide)];(set_option tactic.hygienic true in split) <;> lia
  refine wpAny_pyIter_range hr ?_ ?_
  · unfold Builtin.Range.small;rw [hsz];unfold Builtin.Range.rangeFitsLong;have h1:((b-a).toNat:Int)<=2000000:=by lia
    have h2:(0:Int)<=((b-a).toNat:Int):=by lia
    simp only [Bool.and_eq_true,decide_eq_true_eq,Bool.or_eq_true];refine ⟨⟨⟨⟨⟨by lia,by lia⟩,by lia,by lia⟩,by lia,by lia⟩,by lia,by lia⟩,.inr ?_⟩;simp only [show ((1:Int)>0)=True from eq_true (by decide),if_true,Bool.and_eq_true,decide_eq_true_eq];lia
  · rw [hsz];exact h (rangeIter S s.heap.objs.size) _ s.toks rfl rfl (λb hb=>by
      have:b=s.heap.objs.size:=List.mem_singleton.mp hb;subst this;exact Zf _) (λb o e=>Heap.get?_push_of_some _ e) ⟨a,(b-a).toNat,Heap.get?_push_size _ rfl,rfl⟩
set_option tactic.hygienic false
section
variable {S:Sys} {F:Frm} {n:Nat×Nat} {ρ:Rho} {σ:MH} {Q:MF->Rho->MH->Prop} {X:MH->Prop}
noncomputable abbrev noX:MH->Prop:=λ_=>False
theorem KZ {S:Sys} {F:Frm} {e:Value} {s:Shared} (h:EX S F noX e s):False:=by obtain ⟨_,_,_,_,h⟩:=h;exact h
structure TouchAt (S:Sys) (F:Frm) (s0:Shared) (σ:MH) (s:Shared) (b:Addr):Prop where
  n0:s0.heap.get? b=none
  n1:F.s0.heap.get? b=none
  ns:σ b=none
  own:¬ F.own b
  cell:∀x c,F.env.cells.lookup x=some c->c≠b
  base:S.h0.get? b=none
  live:∃o,s.heap.get? b=some o/\¬ XY o
noncomputable def UN (S:Sys) (F:Frm) (s0:Shared) (σ:MH) (s:Shared) (fp:List Addr):Prop:=∀b∈fp,TouchAt S F s0 σ s b
theorem St.touch {s0 s:Shared} {σ0:MH} {fp:List Addr} {h':Heap} {own':Addr->Prop} (t:Nat) (x:St S F ρ σ s) (y:Ze own' σ0 s0 σ s)
    (hk:∀b o,s.heap.get? b=some o->b∉fp->h'.get? b=some o) (hf:UN S F s0 σ s fp) :
    St S F ρ σ { s with heap:=h',toks:=t }/\Ze own' σ0 s0 σ { s with heap:=h',toks:=t }/\ZJ s.heap h':=by
  have vk:ZJ s.heap h':=λb o e v=>hk b o e λq=>by
    obtain ⟨_,_,_,_,_,_,o',e',nv⟩:=hf b q;rw [e] at e';cases e';exact nv v
  have ks:∀b mo,σ b=some mo->∀o,s.heap.get? b=some o->h'.get? b=some o:=λb mo e o e'=>hk b o e' λq=>by
    rw [(hf b q).ns] at e;cases e
  have step:∀{ow:Addr->Prop} {σa:MH} {sa:Shared},(∀b∈fp,sa.heap.get? b=none)->Ze ow σa sa σ s->Ze ow σa sa σ { s with heap:=h',toks:=t }:=λ{ow σa sa} hfr z=>
    ⟨λb o e hn ho=>(z.keep b o e hn ho).then λo' e'=>.inl (hk b o' e' λq=>(by rw [hfr b q] at e;cases e)),
     λb o e=>by obtain ⟨o',e'⟩:=z.alive b o e;exact ⟨o',hk b o' e' λq=>by rw [hfr b q] at e;cases e⟩,z.dom,z.os⟩
  have kl:∀o,s.heap.get? F.env.locals=some o->h'.get? F.env.locals=some o:=λo e=>hk _ o e λq=>(hf _ q).own (.inl rfl);have kc:∀z c,F.env.cells.lookup z=some c->∀o,s.heap.get? c=some o->h'.get? c=some o:=λz c hc o e=>hk _ o e λq=>(hf _ q).cell z c hc rfl;obtain ⟨m,hn,hm⟩:=x.fr.loc;refine ⟨⟨⟨λb o e=>hk b o (x.g.base b o e) λq=>(by rw [(hf b q).base] at e;cases e),λb mo e=>⟨(x.g.objs b mo e).1,(x.g.objs b mo e).2.keep (ks b mo e) vk⟩,x.g.gens⟩,⟨x.fr.kind,x.fr.glob,x.fr.blt,⟨m,KQ hn kl,λz v hz hk'=>?_⟩,λz o hz hk'=>?_,x.fr.kinds,x.fr.nodup,λc hc=>?_,λz c hc=>?_,x.fr.inj,x.fr.nodbg,x.fr.full,x.fr.lcell⟩,x.lo,x.los,x.locs,step (λb q=>(hf b q).n1) x.hist,x.outs.to λL z=>z.to z.un λo e=>.inl (hk L o e λq=>by obtain ⟨o',ho⟩:=z.old;rw [(hf L q).n1] at ho;cases ho)⟩,step (λb q=>(hf b q).n0) y,vk⟩
  · obtain ⟨u,e,r⟩:=hm z v hz hk';exact ⟨u,e,r.keep vk⟩
  · obtain ⟨c,hl,⟨u,hu⟩,hv⟩:=x.fr.cell z o hz hk';refine ⟨c,hl,⟨u,Yg hu (kc z c hl)⟩,λv e=>?_⟩;obtain ⟨u',a,b⟩:=hv v e;exact ⟨u',Yg a (kc z c hl),b.keep vk⟩
  · obtain ⟨u,hu⟩:=x.fr.cellsAre c hc;exact ⟨u,Yg hu λo e=>hk _ o e λq=>(hf _ q).own (.inr hc)⟩
  · obtain ⟨u,hu⟩:=x.fr.allCells z c hc;exact ⟨u,Yg hu (kc z c hc)⟩
noncomputable def WA (S:Sys) (F:Frm) (n:Nat×Nat) (t:Value->Sem Unit) (m:V) (ρ:Rho) (σ:MH) (Q:Rho->MH->Prop) (X:MH->Prop):Prop:=
  ∀u A s,Yz F n A->St S F ρ σ s->Zv s.heap m u->wpAny S.M A (t u) (λ_ s'=>∃ρ' σ',Ze F.own σ s σ' s'/\St S F ρ' σ' s'/\Q ρ' σ') (EX S F X) s
theorem ZC {QA:Rho->MH->Prop} {x:Str} {pos:Pos} {m:V} {ρ':Rho} (U:UpdR ρ x m ρ') (hF:F.isFn=true\/F.env.kindOf x=some .local) (q:QA ρ' σ):WA S F n (assign (.Name x pos) F.env) m ρ σ QA X:=by
  intro u A s hR y r;exact wpAny_assign_Name (y.store U r hF λs2 y2 x2=>⟨ρ',σ,y2,x2,q⟩)
theorem sWhile {test:Expr} {body:List Stmt} {pos:Pos} (I:Nat->Rho->MH->Prop) (k0:Nat) (h0:I k0 ρ σ)
    (turn:∀k ρ σ,I k ρ σ->WB S F n (isTrue test F.env (eval test F.env)) ρ σ (λb σ1=>if b=true then WS S F n (execs body F.env) ρ σ1 (λmf ρ2 σ2=>match mf with
        | .next | .cont=>∃k',k'<k/\I k' ρ2 σ2
        | .brk=>Q .next ρ2 σ2
        | .ret m=>Q (.ret m) ρ2 σ2) noX else Q .next ρ σ1) noX):WS S F n (exec (.While test body [] pos) F.env) ρ σ Q X:=by
  intro A s hR y;refine wpAny_While (codeAny_whileLoop (λk s'=>∃ρ' σ',Ze F.own σ s σ' s'/\St S F ρ' σ' s'/\I k ρ' σ') ?_ k0 ⟨ρ,σ,Ze.refl ..,y,h0⟩);rintro k s1 ⟨ρ1,σ1,y1,x1,hI⟩;refine wpAny_mono (turn k ρ1 σ1 hI A s1 hR x1) ?_ λ_ _ z=>(KZ z).elim;rintro b s2 ⟨b',σ2,y2,x2,rfl,q⟩;cases b with
  | false=>
    simp only [Bool.false_eq_true,if_false] at q ⊢;exact wpAny_execs_nil ⟨.next,ρ1,σ2,y1.trans y2.from_no,x2,rfl,q⟩
  | true=>
    simp only [if_true] at q ⊢;refine wpAny_mono (q A s2 hR x2) ?_ λ_ _ z=>(KZ z).elim;rintro f s3 ⟨mf,ρ3,σ3,y3,x3,r3,q3⟩;have yy:=y1.trans (y2.from_no.trans y3);cases mf with
    | next=>obtain rfl:=r3;obtain ⟨k',hk,hI'⟩:=q3;exact ⟨k',hk,ρ3,σ3,yy,x3,hI'⟩
    | cont=>obtain rfl:=r3;obtain ⟨k',hk,hI'⟩:=q3;exact ⟨k',hk,ρ3,σ3,yy,x3,hI'⟩
    | brk=>obtain rfl:=r3;exact ⟨.next,ρ3,σ3,yy,x3,rfl,q3⟩
    | ret m=>obtain ⟨u,rfl,r3⟩:=r3;exact ⟨.ret m,ρ3,σ3,yy,x3,⟨u,rfl,r3⟩,q3⟩
noncomputable def K7 (S:Sys) (F:Frm) (s0:Shared) (fp:List Addr):Prop:=∀b∈fp,s0.heap.get? b=none/\F.s0.heap.get? b=none/\¬ F.own b/\(∀x c,F.env.cells.lookup x=some c->c≠b)/\S.h0.get? b=none
theorem St.fresh {s:Shared} {fp:List Addr} (x:St S F ρ σ s) (h:∀b∈fp,s.heap.get? b=none):K7 S F s fp:=by
  intro b hb;have e:=h b hb;obtain ⟨m,⟨ol,_,_,hl,_⟩,_⟩:=x.fr.loc;refine ⟨e,?_,?_,?_,x.g.base_none e⟩
  · cases q:F.s0.heap.get? b with
    | none=>rfl
    | some o=>obtain ⟨o',e'⟩:=x.hist.alive b o q;rw [e] at e';cases e'
  · rintro (rfl | hc)
    · rw [hl] at e;cases e
    · obtain ⟨u,oc,ho,_⟩:=x.fr.cellsAre b hc;rw [ho] at e;cases e
  · rintro z c hc rfl;obtain ⟨u,oc,ho,_⟩:=x.fr.allCells z c hc;rw [ho] at e;cases e
noncomputable def WIt (S:Sys) (F:Frm) (n:Nat×Nat) (iter:Expr) (ρ:Rho) (σ:MH) (QI:List V->(MH->Prop)->Bool->MH->Prop) (X:MH->Prop):Prop:=
  ∀A s (P:Value->Shared->Prop),Yz F n A->St S F ρ σ s->
    (∀items G pairs σ1 s1 (J:Jn S),QI items G pairs σ1->Ze ZI σ s σ1 s1->St S F ρ σ1 s1->J.G=G->J.pairs=pairs->J.At items s1.heap->(∀b∈J.fp,s.heap.get? b=none/\σ1 b=none)->P J.it s1)->
    wpAny S.M A (eval iter F.env) (λu s1=>wpAny S.M A (pyIter u) P (EX S F X) s1) (EX S F X) s
theorem WIt.of {iter:Expr} {QI:List V->(MH->Prop)->Bool->MH->Prop} (h:WE S F n (eval iter F.env) ρ σ (λm σ1=>∃(items:List V) (G:MH->Prop) (pairs:Bool),Kf S m σ1 items G pairs/\QI items G pairs σ1) X):WIt S F n iter ρ σ QI X:=by
  intro A s P hR y k;refine wpAny_mono (h A s hR y) ?_ λ_ _ z=>z;rintro u s1 ⟨m,σ1,y1,x1,r1,items,G,pairs,mk,q⟩;refine mk u A _ s1 _ x1.g r1 λJ h2 t2 hJG hJp hfp hkeep hAt=>?_;have st2:Ze ZI σ1 s1 σ1 { s1 with heap:=h2,toks:=t2 }:=⟨λb o e _ _=>.inl (hkeep b o e),λb o e=>⟨o,hkeep b o e⟩,λ_ q=>.inl q,rfl⟩;have x2:St S F ρ σ1 { s1 with heap:=h2,toks:=t2 }:=x1.step st2 ⟨λb o e=>hkeep b o (x1.g.base b o e),λb mo e=>⟨(x1.g.objs b mo e).1,(x1.g.objs b mo e).2.keep (λo e'=>hkeep b o e') λb o e _=>hkeep b o e⟩,x1.g.gens⟩;refine k items G pairs σ1 _ J q (y1.trans st2) x2 hJG hJp hAt λb hb=>⟨?_,?_⟩
  · cases e:s.heap.get? b with
    | none=>rfl
    | some o=>obtain ⟨o',e'⟩:=y1.alive b o e;rw [hfp b hb] at e';cases e'
  · cases e:σ1 b with
    | none=>rfl
    | some mo=>obtain ⟨o,ho⟩:=(x1.g.objs b mo e).2.at;rw [hfp b hb] at ho;cases ho
inductive VE (S:Sys) (F:Frm) (J:Jn S) (σ0:MH) (s0:Shared) (I:List V->Rho->MH->Prop) (k:Nat) (s':Shared):Prop where
  | mk (its:List V) (ρ':Rho) (σ':MH) (len:its.length=k) (y:Ze F.own σ0 s0 σ' s') (x:St S F ρ' σ' s') (at_:J.At its s'.heap) (n:∀b∈J.fp,σ' b=none) (i:I its ρ' σ'):VE S F J σ0 s0 I k s'
theorem sForI {target iter:Expr} {body:List Stmt} {pos:Pos} (hs:∀x,foldedSetIterable iter F.env x=pure x)
    (h:WIt S F n iter ρ σ (λitems G pairs σ1=>(YF target=true\/(Yb target=true/\pairs=false))/\∃I:List V->Rho->MH->Prop,
      I items ρ σ1/\(∀its ρ' σ',I its ρ' σ'->G σ')/\
      (∀x rest ρ' σ',I (x::rest) ρ' σ'->WA S F n (assign target F.env) x ρ' σ' (λρ2 σ2=>WS S F n (execs body F.env) ρ2 σ2 (λmf ρ3 σ3=>match mf with
        | .next | .cont=>I rest ρ3 σ3
        | .brk=>Q .next ρ3 σ3
        | .ret m=>Q (.ret m) ρ3 σ3) noX) noX)/\
      (∀ρ' σ',I [] ρ' σ'->Q .next ρ' σ')) X):WS S F n (exec (.For target iter body [] pos) F.env) ρ σ Q X:=by
  intro A s hR y;refine wpAny_For (h A s _ hR y ?_) hs;rintro items G pairs σ1 s1 J ⟨htgt,I,hI,hG,turn,fin⟩ y1 x1 hJG hJp hAt hfp;have hfr:K7 S F s J.fp:=y.fresh λb hb=>(hfp b hb).1;refine codeAny_forLoop_any (VE S F J σ s I) ?_ items.length
    ⟨items,ρ,σ1,rfl,y1.from_no,x1,hAt,λb hb=>(hfp b hb).2,hI⟩
  rintro k s3 ⟨its,ρ3,σ3,hlen,y3,x3,hAt3,hn3,hI3⟩;have G3:J.G σ3:=by rw [hJG];exact hG _ _ _ hI3
  have touchable:UN S F s σ3 s3 J.fp:=λb hb=>
    by obtain ⟨a1,a2,a3,a4,a5⟩:=hfr b hb;exact ⟨a1,a2,hn3 b hb,a3,a4,a5,J.live _ _ hAt3 b hb⟩
  cases its with
  | nil=>
    refine J.stop A _ σ3 s3 _ hR.1 x3.g G3 hAt3 λh' t hk=>?_;obtain ⟨x4,y4,_⟩:=x3.touch t y3 hk touchable;exact wpAny_execs_nil ⟨.next,ρ3,σ3,y4,x4,rfl,fin ρ3 σ3 hI3⟩
  | cons x rest=>
    have tg:YF target=true\/(Yb target=true/\J.pairs=false):=by rw [hJp];exact htgt
    refine wpAny_mono (J.next target A _ σ3 s3 x rest (λu s'=>wpAny S.M A (assign target F.env u) (λ_ s₂=>wpAny S.M A (execs body F.env) (λf s₃=>match f with
          | .next | .cont=>∃m,m<k/\VE S F J σ s I m s₃
          | .brk=>PWX S F FRep σ s Q Flow.next s₃
          | .ret v=>PWX S F FRep σ s Q (Flow.ret v) s₃) (λ_ _=>False) s₂) (λ_ _=>False) s') tg hR.1 x3.g G3 hAt3 λh' t u' hk ru hAt'=>?_) ?_ λ_ _ z=>z
    · obtain ⟨x4,y4,vk4⟩:=x3.touch t y3 hk touchable;refine wpAny_mono (turn x rest ρ3 σ3 hI3 u' A _ hR x4 ru) ?_ λ_ _ z=>(KZ z).elim;rintro _ s5 ⟨ρ5,σ5,y5,x5,q5⟩;refine wpAny_mono (q5 A s5 hR x5) ?_ λ_ _ z=>(KZ z).elim;rintro f s6 ⟨mf,ρ6,σ6,y6,x6,r6,q6⟩;have y46:=y5.trans y6;have fpo:∀b∈J.fp,∀o,h'.get? b=some o->s6.heap.get? b=some o:=λb hb o e=>(y46.keep b o e (hn3 b hb) (hfr b hb).2.2.1).exact (J.nd hAt' hb e);have At6:J.At rest s6.heap:=J.frame rest h' s6.heap hAt' fpo (x4.vkeep y46);have hn6:∀b∈J.fp,σ6 b=none:=λb hb=>by
        obtain ⟨o,e,_⟩:=J.live _ _ hAt' b hb;exact y46.none e (hn3 b hb)
      have yall:=y4.trans y46;cases mf with
      | next=>obtain rfl:=r6;exact ⟨rest.length,by rw [<-hlen];simp,rest,ρ6,σ6,rfl,yall,x6,At6,hn6,q6⟩
      | cont=>obtain rfl:=r6;exact ⟨rest.length,by rw [<-hlen];simp,rest,ρ6,σ6,rfl,yall,x6,At6,hn6,q6⟩
      | brk=>obtain rfl:=r6;exact ⟨.next,ρ6,σ6,yall,x6,rfl,q6⟩
      | ret m=>obtain ⟨w,rfl,r6⟩:=r6;exact ⟨.ret m,ρ6,σ6,yall,x6,⟨w,rfl,r6⟩,q6⟩
    · rintro r s' ⟨v,rfl,hv⟩;refine wpAny_mono hv ?_ λ_ _ z=>z;intro _ s'' h'';refine wpAny_mono h'' ?_ λ_ _ z=>z.elim;intro _ s3' h3;exact wpAny_mono h3 (λ_ _ z=>z) λ_ _ z=>z.elim
end
set_option tactic.hygienic false
noncomputable def Zg (sc:Scope):Env:={ scope:=sc,locals:=0,globals:=0,cells:=[] }
theorem YS {env:Env} {sc:Scope} (h:env.scope=sc) (v:Expr) (t:Option Expr) (l:Nat):swapsWith v t l env=swapsWith v t l (Zg sc):=by
  unfold swapsWith Env.blockKind Env.kindOf Zg;rw [h]
theorem Zy {env:Env} {sc:Scope} (h:env.scope=sc) (ts:List Expr) (v:Expr):swappedStores ts v env=swappedStores ts v (Zg sc):=by
  unfold swappedStores Env.blockKind Env.kindOf Zg;rw [h]
theorem VR {env:Env} {sc:Scope} (h:env.scope=sc) (s:Scope):relabel s env=relabel s (Zg sc):=by
  unfold relabel Env.kindOf Zg;rw [h]
noncomputable def JQ (env:Env) (names:List (Str×NameKind)) (acc:List (Str×Addr)):List (Str×Addr):=
  match names with
  | []=>acc
  | (x,k)::r=>if k==.free then JQ env r ((x,(env.cells.lookup x).getD 0)::acc) else JQ env r acc
theorem VT {scope:Scope} {env:Env} (h:∀x,(x,NameKind.free)∈scope.names->∃c,env.cells.lookup x=some c):closureFor scope env=pure (JQ env scope.names []):=by
  simp only [closureFor];have go:∀(names:List (Str×NameKind)) (acc:List (Str×Addr)),(∀x,(x,NameKind.free)∈names->∃c,env.cells.lookup x=some c)->
      (forIn names acc λ(x:Str×NameKind) (r:List (Str×Addr))=>match x with
        | (name,kind)=>if (kind==NameKind.free)=true then do let a<-cellOf env name;pure (ForInStep.yield ((name,a)::r)) else pure (ForInStep.yield r))=(pure (JQ env names acc):Sem _):=by
    intro names;induction names with
    | nil=>intro acc _;rfl
    | cons p r ih=>
      obtain ⟨x,k⟩:=p;intro acc hx;rw [List.forIn_cons];by_cases hk:(k==NameKind.free)=true
      · have:k=.free:=eq_of_beq hk;subst this;obtain ⟨c,hc⟩:=hx x List.mem_cons_self;simp only [JQ,cellOf,hc,Option.getD_some];exact ih _ λy hy=>hx y (List.mem_cons_of_mem _ hy)
      · simp only [JQ,hk];exact ih _ λy hy=>hx y (List.mem_cons_of_mem _ hy)
  exact (congrArg (λt=>t >>= λr=>pure r) (go scope.names [] h)).trans rfl
theorem KA {env:Env} {x:Str} {c:Addr}:∀{names:List (Str×NameKind)} {acc:List (Str×Addr)},(∀y,(y,NameKind.free)∈names->∃c,env.cells.lookup y=some c)->(∀y d,acc.lookup y=some d->env.cells.lookup y=some d)->(JQ env names acc).lookup x=some c->env.cells.lookup x=some c:=λ{names}=>by
  induction names with
  | nil=>exact λ_ ha h=>ha x c h
  | cons a r ih=>
    intro acc hn ha h;rw [show a=(a.1,a.2) from rfl] at hn h;generalize a.1=y at hn h;generalize a.2=k at hn h;rw [JQ] at h;(set_option tactic.hygienic true in split at h)
    · rename_i hk;have:k=.free:=eq_of_beq hk;subst this;refine ih (λz hz=>hn z (List.mem_cons_of_mem _ hz)) (λz d hz=>?_) h;rw [List.lookup_cons] at hz;cases hzy:z==y with
      | true=>
        rw [hzy] at hz;have:=eq_of_beq hzy;subst this;obtain ⟨e,he⟩:=hn z List.mem_cons_self;rw [he] at hz ⊢;exact hz
      | false=>rw [hzy] at hz;exact ha z d hz
    · exact ih (λz hz=>hn z (List.mem_cons_of_mem _ hz)) ha h
theorem clOf_has {env:Env} {x:Str}:∀{names:List (Str×NameKind)} {acc:List (Str×Addr)},((x,NameKind.free)∈names\/(acc.lookup x).isSome=true)->((JQ env names acc).lookup x).isSome=true:=λ{names}=>by
  induction names with
  | nil=>exact λh=>h.elim (λq=>by cases q) id
  | cons a r ih=>
    intro acc h;rw [show a=(a.1,a.2) from rfl] at h ⊢;generalize a.1=y at h ⊢;generalize a.2=k at h ⊢;rw [JQ];(set_option tactic.hygienic true in split)
    · rename_i hk;refine ih ?_;rw [List.lookup_cons];cases hy:x==y with
      | true=>exact .inr rfl
      | false=>
        rcases h with h | h
        · rcases List.mem_cons.mp h with h | h
          · cases h;rw [beq_self_eq_true] at hy;cases hy
          · exact .inl h
        · exact .inr h
    · rename_i hk;refine ih ?_;rcases h with h | h
      · rcases List.mem_cons.mp h with h | h
        · cases h;exact absurd rfl hk
        · exact .inl h
      · exact .inr h
noncomputable def ZB (names:List (Str×NameKind)) (ρ:Rho):Rho:=
  names.filterMap λp=>if p.2==.local then some (p.1,none) else if p.2==.free then some (p.1,(ρ.lookup p.1).join) else none
noncomputable def Y0 (names:List (Str×NameKind)) (ρ:Rho) (sc:Scope):Bool:=
  decide (names.map Prod.fst).Nodup&&names.all (λp=>!(p.1==("__debug__":Str))&&p.2 != .cell)&&names.all λp=>p.2 != .free||(sc.names.lookup p.1==some .cell&&(ρ.any λq=>q.1==p.1))
theorem YV {names:List (Str×NameKind)} {ρ:Rho} (hn:(names.map Prod.fst).Nodup) {x:Str} {o:Option V} (h:(x,o)∈ZB names ρ) :
    (names.lookup x=some .local/\o=none/\(x,NameKind.local)∈names)\/(names.lookup x=some .free/\o=(ρ.lookup x).join/\(x,NameKind.free)∈names):=by
  unfold ZB at h;obtain ⟨⟨y,k⟩,hm,he⟩:=List.mem_filterMap.mp h;simp only at he;have l:=Xv hn hm;(set_option tactic.hygienic true in split at he)
  · rename_i hk;cases he;have:k=.local:=eq_of_beq hk;subst this;exact .inl ⟨l,rfl,hm⟩
  · (set_option tactic.hygienic true in split at he)
    · rename_i hk;cases he;have:k=.free:=eq_of_beq hk;subst this;exact .inr ⟨l,rfl,hm⟩
    · cases he
theorem VP {ρ:Rho}:∀{names:List (Str×NameKind)},(names.map Prod.fst).Nodup->((ZB names ρ).map Prod.fst).Nodup:=λ{names}=>by
  induction names with
  | nil=>exact λ_=>List.nodup_nil
  | cons a r ih=>
    intro hn;have hn:=List.nodup_cons.mp hn;have ih:=ih hn.2;have sub:∀z,z∈(ZB r ρ).map Prod.fst->z∈r.map Prod.fst:=by
      intro z hz;obtain ⟨⟨y',o'⟩,hm',e⟩:=List.mem_map.mp hz;rcases YV hn.2 hm' with ⟨_,_,h⟩ | ⟨_,_,h⟩ <;> exact List.mem_map.mpr ⟨_,h,e⟩
    unfold ZB at ih sub ⊢;rw [List.filterMap_cons];(set_option tactic.hygienic true in split)
    · exact ih
    · rename_i z hz;have hy:z.1=a.1:=by
        (set_option tactic.hygienic true in split at hz)
        · cases hz;rfl
        · (set_option tactic.hygienic true in split at hz)
          · cases hz;rfl
          · cases hz
      exact List.nodup_cons.mpr ⟨λhm=>hn.1 (hy▸sub _ hm),ih⟩
theorem Uu {env:Env}:∀{names:List (Str×NameKind)} {x:Str} {k:NameKind},names.lookup x=some k->
    (names.map λ(n,k)=>if (k==NameKind.free&&env.scope.kind==.function&&env.kindOf n==some .cell) then (n,NameKind.cell) else (n,k)).lookup x =
      some (if (k==NameKind.free&&env.scope.kind==.function&&env.kindOf x==some .cell) then NameKind.cell else k):=λ{names}=>by
  induction names with
  | nil=>intro x k h;cases h
  | cons a r ih=>
    intro x k h;have ih:=@ih x k;rw [List.map_cons];rw [show a=(a.1,a.2) from rfl] at h ⊢;generalize a.1=n at h ⊢;generalize a.2=k' at h ⊢;rw [List.lookup_cons] at h;cases hx:x==n with
    | true=>
      rw [hx] at h;cases h;have:=eq_of_beq hx;subst this;dsimp only;(set_option tactic.hygienic true in split) <;> rw [List.lookup_cons,hx]
    | false=>
      rw [hx] at h;dsimp only;(set_option tactic.hygienic true in split) <;> (rw [List.lookup_cons,hx];exact ih h)
theorem Um:∀{ρ:Rho} {x:Str} {v:V},(ρ.lookup x).join=some v->(x,some v)∈ρ:=λ{ρ}=>by
  induction ρ with
  | nil=>intro x v h;cases h
  | cons yo r ih=>
    intro x v h;obtain ⟨y,o⟩:=yo;rw [List.lookup_cons] at h;cases hx:x==y with
    | true=>
      rw [hx] at h;simp only [Option.join] at h;have:=eq_of_beq hx;subst this;cases o <;> simp at h;subst h;exact .head _
    | false=>rw [hx] at h;exact .tail _ (ih h)
section
variable {S:Sys} {F:Frm} {n:Nat×Nat} {ρ:Rho} {σ:MH} {X:MH->Prop}
theorem St.comp {scope:Scope} {sc:Scope} {s:Shared} {h':Heap} {tk:Nat} {qual:Str} (x:St S F ρ σ s) (hsc:F.env.scope=sc) (hck:Y0 scope.names ρ sc=true) (hkind:scope.kind=.function)
    (hns:h'.Ns s.heap.objs.size λ_=>none) (hkeep:∀b o,s.heap.get? b=some o->h'.get? b=some o) (Fc:Frm) {σ00:MH} {s00:Shared} {bl:Addr} (hh:Ze ZI σ00 s00 σ s)
    (hFc:Fc=⟨{ newEnv scope s.heap.objs.size F.env.globals (JQ F.env scope.names []) qual none .none (some F.env) bl with scope:=relabel scope F.env },[],false,σ00,s00,none⟩) :
    St S Fc (ZB scope.names ρ) σ { s with heap:=h',toks:=tk }:=by
  subst hFc;unfold Y0 at hck;simp only [Bool.and_eq_true,decide_eq_true_eq,List.all_eq_true,Bool.or_eq_true,bne_iff_ne,ne_eq,beq_iff_eq,Bool.not_eq_true'] at hck;obtain ⟨⟨hn,hnc⟩,hfree⟩:=hck;have kindF:F.env.scope.kind=.function:=x.fr.kind;have freeCell:∀y,(y,NameKind.free)∈scope.names->F.env.kindOf y=some .cell/\∃o,(y,o)∈ρ:=by
    intro y hy;rcases hfree _ hy with h1 | ⟨h1,h2⟩
    · exact absurd rfl h1
    · refine ⟨by unfold Env.kindOf;rw [hsc];exact h1,?_⟩;obtain ⟨⟨z,o⟩,hz,he⟩:=List.any_eq_true.mp h2;have:=eq_of_beq he;subst this;exact ⟨o,hz⟩
  have freeAt:∀y,(y,NameKind.free)∈scope.names->∃c,F.env.cells.lookup y=some c:=λy hy=>by
    obtain ⟨hk,o,ho⟩:=freeCell y hy;obtain ⟨c,hc,_⟩:=x.fr.cell y o ho hk;exact ⟨c,hc⟩
  have vk:ZJ s.heap h':=λb o e _=>hkeep b o e;have cl:∀y c,(JQ F.env scope.names []).lookup y=some c->F.env.cells.lookup y=some c:=λy c h=>KA freeAt (λ_ _ q=>by simp at q) h;have relabelKind:∀y k,scope.names.lookup y=some k->(relabel scope F.env).names.lookup y=some (if (k==NameKind.free&&F.env.scope.kind==.function&&F.env.kindOf y==some .cell) then NameKind.cell else k):=λy k h=>Uu h;have hLnone:s.heap.get? s.heap.objs.size=none:=Zf _;refine ⟨⟨λb o e=>hkeep b o (x.g.base b o e),λb mo e=>⟨(x.g.objs b mo e).1,(x.g.objs b mo e).2.keep (λo e'=>hkeep b o e') vk⟩,x.g.gens⟩,
    ⟨hkind,x.fr.glob,x.fr.blt,⟨_,hns,λz v hz hk=>?_⟩,λz o hz hk=>?_,λz o hz=>?_,VP hn,λc hc=>(nomatch hc),λz c hc=>?_,λa b c h1 h2=>x.fr.inj a b c (cl _ _ h1) (cl _ _ h2),λz o hz=>?_,λq=>Bool.noConfusion q,λz c hc=>?_⟩,
    ⟨x.g.base_none hLnone,x.g.none_of_size (Nat.le_refl _)⟩,λz c hc=>x.los z c (cl _ _ hc),λc hc=>(nomatch hc),hh.from_no.trans ⟨λb o e _ _=>.inl (hkeep b o e),λb o e=>⟨o,hkeep b o e⟩,λ_ q=>.inl q,rfl⟩,(λl e=>by cases e)⟩
  · rcases YV hn hz with ⟨_,e,_⟩ | ⟨l,_,hm⟩
    · cases e
    · have:=relabelKind z _ l;have hk':(relabel scope F.env).names.lookup z=some .local:=hk;rw [this,(freeCell z hm).1,kindF] at hk';simp at hk'
  · rcases YV hn hz with ⟨l,_,_⟩ | ⟨l,e,hm⟩
    · have hk':(relabel scope F.env).names.lookup z=some .cell:=hk;rw [relabelKind z _ l] at hk';simp at hk'
    · obtain ⟨hkc,o',ho'⟩:=freeCell z hm;obtain ⟨c,hc,⟨u0,hu0⟩,_⟩:=x.fr.cell z o' ho' hkc;have hsome:((JQ F.env scope.names []).lookup z).isSome=true:=clOf_has (.inl hm);obtain ⟨c',hc'⟩:=Option.isSome_iff_exists.mp hsome;have:c'=c:=by have:=cl _ _ hc';rw [hc] at this;cases this;rfl
      subst this;refine ⟨c',hc',⟨u0,Yg hu0 λo e=>hkeep _ o e⟩,λv hv=>?_⟩;subst hv;obtain ⟨c2,hc2,_,hv2⟩:=x.fr.cell z (some v) (Um e.symm) hkc;rw [hc] at hc2;cases hc2;obtain ⟨u,hu,r⟩:=hv2 v rfl;exact ⟨u,Yg hu λo e=>hkeep _ o e,r.keep vk⟩
  · rcases YV hn hz with ⟨l,_,_⟩ | ⟨l,_,hm⟩
    · refine .inl ?_;show (relabel scope F.env).names.lookup z=_;rw [relabelKind z _ l];rfl
    · refine .inr ?_;show (relabel scope F.env).names.lookup z=_;rw [relabelKind z _ l,(freeCell z hm).1,kindF];rfl
  · obtain ⟨u,hu⟩:=x.fr.allCells z c (cl _ _ hc);exact ⟨u,Yg hu λo e=>hkeep _ o e⟩
  · rcases YV hn hz with ⟨_,_,hm⟩ | ⟨_,_,hm⟩ <;> exact (hnc _ hm).1
  · rintro rfl;obtain ⟨u,oc,ho,_⟩:=x.fr.allCells z _ (cl _ _ hc);have e:s.heap.get? s.heap.objs.size=some oc:=ho;rw [hLnone] at e;cases e
end
set_option tactic.hygienic false
section
variable {S:Sys} {F:Frm} {n:Nat×Nat} {ρ:Rho} {σ:MH} {X:MH->Prop}
noncomputable def WIfs (S:Sys) (F:Frm) (n:Nat×Nat):List Expr->Rho->MH->(Bool->MH->Prop)->Prop
  | [],_,σ,Q=>Q true σ
  | [c],ρ,σ,Q=>WB S F n (isTrue c F.env (eval c F.env)) ρ σ Q noX
  | _,_,_,_=>False
theorem WIfs.run {ifs:List Expr} {Q:Bool->MH->Prop} {A:Around} {s:Shared} {E:Value->Shared->Prop} {P:Bool->Shared->Prop} (h:WIfs S F n ifs ρ σ Q) (hR:Yz F n A) (x:St S F ρ σ s)
    (k:∀b σ1 s1,Ze ZI σ s σ1 s1->St S F ρ σ1 s1->Q b σ1->P b s1) :
    wpAny S.M A (forIn ifs true λc r=>if r=true then do let ok<-isTrue c F.env (eval c F.env);pure (ForInStep.yield ok) else pure (ForInStep.yield r)) P E s:=by
  match ifs,h with
  | [],h=>exact wpAny_tests_nil (k true σ s (Ze.refl ..) x h)
  | [c],h=>
    refine wpAny_tests_one (wpAny_mono (h A s hR x) ?_ λ_ _ z=>(KZ z).elim);rintro b s1 ⟨b',σ1,y1,x1,rfl,q⟩;exact k b σ1 s1 y1 x1 q
structure XI (S:Sys) (F:Frm) (n:Nat×Nat) (sc scope:Scope) (elt target:Expr) (ifs:List Expr) (items:List V) (G:MH->Prop) (a:Addr) (ρ0:Rho) (σ0:MH) (QR:List V->MH->Prop):Prop where
  mk::
  ex:∃I:List V->List V->Rho->MH->Prop,I items [] ρ0 (σ0.set a (.list []))/\(∀its acc ρ' σ',I its acc ρ' σ'->G σ'/\σ' a=some (.list acc))/\
    (∀Fc:Frm,Fc.env.scope=relabel scope (Zg sc)->Fc.isFn=false->∀x rest acc ρ' σ',I (x::rest) acc ρ' σ'->
      WA S Fc n (assign target Fc.env) x ρ' σ' (λρ2 σ2=>WIfs S Fc n ifs ρ2 σ2 λok σ3=>if ok=true then
          WE S Fc n (eval elt Fc.env) ρ2 σ3 (λm σ4=>acc.length<=100000/\σ4 a=some (.list acc)/\I rest (acc++[m]) ρ2 (σ4.set a (.list (acc++[m])))) noX
        else I rest acc ρ2 σ3) noX)/\
    (∀acc ρ' σ',I [] acc ρ' σ'->QR acc σ')
noncomputable def U6 (env:Env) (ifs:List Expr):Sem Bool:=forIn ifs true λc r=>if r=true then do let ok<-isTrue c env (eval c env);pure (ForInStep.yield ok) else pure (ForInStep.yield r)
noncomputable def QZ (elt:Expr) (ifs:List Expr) (acc:Value) (env:Env):Sem Unit:=
  U6 env ifs >>= λok=>if ok=true then (eval elt env >>= λx=>call (.builtin "list.append") [acc,x] >>= λ_=>pure ()) else pure ()
theorem turn1 (elt target iter:Expr) (ifs:List Expr) (scope:Scope) (pos:Pos) (it acc:Value) (env:Env) :
    compTurn (.ListComp elt [⟨target,iter,ifs,0⟩] scope pos) 0 it acc env=(standAt iter.pos >>= λ_=>pyNext it >>= λr=>match r with
      | none=>pure (.done .next)
      | some v=>letOwnedTupleGo target it v >>= λ_=>assign target env v >>= λ_=>QZ elt ifs acc env >>= λ_=>again (.compLoop (.ListComp elt [⟨target,iter,ifs,0⟩] scope pos) 0 it acc env)):=by
  rw [compTurn_list];unfold QZ U6;simp only [bind_assoc,pure_bind];congr 1;funext _;congr 1;funext r;cases r with
  | none=>rfl
  | some v=>
    dsimp only;congr 1;funext _;congr 1;funext _;congr 1;funext ok;cases ok <;> simp
theorem Kd {Fc:Frm} {e:Expr} {dep:Nat} {J:Jn S} {acc:Value} {target:Expr} {p:Pos} {body:Sem Unit} {A:Around} {R:Result->Shared->Prop} {s0 s:Shared} {σ0 σ:MH} {ρ:Rho} {items:List V}
    (hq:(Code.compLoop e dep J.it acc Fc.env).isFrame=false) (hu:A.under (Code.compLoop e dep J.it acc Fc.env)=A)
    (heq:compTurn e dep J.it acc Fc.env=(standAt p >>= λ_=>pyNext J.it >>= λr=>match r with
      | none=>pure (.done .next)
      | some v=>letOwnedTupleGo target J.it v >>= λ_=>assign target Fc.env v >>= λ_=>body >>= λ_=>again (.compLoop e dep J.it acc Fc.env)))
    (tg:YF target=true\/(Yb target=true/\J.pairs=false)) (hR:Yz Fc n A) (y0:Ze Fc.own σ0 s0 σ s) (x0:St S Fc ρ σ s) (hAt:J.At items s.heap)
    (hfp:∀b∈J.fp,s0.heap.get? b=none/\Fc.s0.heap.get? b=none/\¬ Fc.own b/\(∀z c,Fc.env.cells.lookup z=some c->c≠b)/\S.h0.get? b=none/\σ b=none)
    (I:List V->Rho->MH->Prop) (i0:I items ρ σ) (hG:∀its ρ' σ',I its ρ' σ'->J.G σ')
    (turn:∀x rest ρ' σ',I (x::rest) ρ' σ'->WA S Fc n (assign target Fc.env) x ρ' σ' (λρ2 σ2=>WU S Fc n body ρ2 σ2 (λρ3 σ3=>I rest ρ3 σ3) noX) noX)
    (fin:∀ρ' σ' s',Ze Fc.own σ0 s0 σ' s'->St S Fc ρ' σ' s'->I [] ρ' σ'->R (.ok .next) s'):codeAny S.M A (.compLoop e dep J.it acc Fc.env) R s:=by
  refine codeAny_loop rfl (VE S Fc J σ0 s0 I) (λk s5 hI5=>?_) items.length
    ⟨items,ρ,σ,rfl,y0,x0,hAt,λb hb=>(hfp b hb).2.2.2.2.2,i0⟩
  obtain ⟨its,ρ5,σ5,hlen,y5,x5,hAt5,hn5,hI5⟩:=hI5;rw [hu];show wpAny _ _ (if (Code.compLoop e dep J.it acc Fc.env).isFrame then _ else (compTurn e dep J.it acc Fc.env).onRaise (λx=>do noteFrame x Fc.env;theTreesLotGoes x)) _ _ s5;rw [hq];refine wpAny_noted ?_;rw [heq];have G5':J.G σ5:=hG _ _ _ hI5;have touchable:UN S Fc s0 σ5 s5 J.fp:=λb hb=>
    by obtain ⟨a1,a2,a3,a4,a5,_⟩:=hfp b hb;exact ⟨a1,a2,hn5 b hb,a3,a4,a5,J.live _ _ hAt5 b hb⟩
  refine wpAny_bind (wpAny_standAt (wpAny_bind ?_));cases its with
  | nil=>
    refine J.stop _ _ σ5 s5 _ hR.1 x5.g G5' hAt5 λh' t hk=>?_;obtain ⟨x6,y6,_⟩:=x5.touch t y5 hk touchable;exact wpAny_pure (fin ρ5 σ5 _ y6 x6 hI5)
  | cons x rest=>
    refine wpAny_mono (J.next target _ _ σ5 s5 x rest (λu s'=>wpAny S.M A (assign target Fc.env u >>= λ_=>body >>= λ_=>again (.compLoop e dep J.it acc Fc.env))
        (λfin s'=>match fin with | .done f=>R (.ok f) s' | .again c'=>c'=.compLoop e dep J.it acc Fc.env/\∃m,m<k/\VE S Fc J σ0 s0 I m s') (λ_ _=>False) s') tg hR.1 x5.g G5' hAt5 λh' t u' hk ru hAt'=>?_) ?_ λ_ _ z=>z
    · obtain ⟨x6,y6,vk6⟩:=x5.touch t y5 hk touchable;refine wpAny_bind (wpAny_mono (turn x rest ρ5 σ5 hI5 u' A _ hR x6 ru) ?_ λ_ _ z=>(KZ z).elim);rintro _ s7 ⟨ρ7,σ7,y7,x7,q7⟩;refine wpAny_bind (wpAny_mono (q7 A s7 hR x7) ?_ λ_ _ z=>(KZ z).elim);rintro _ s8 ⟨_,ρ8,σ8,y8,x8,_,q8⟩;have yz:=y7.trans y8;have n8:∀b∈J.fp,σ8 b=none:=λb hb=>by obtain ⟨o,e,_⟩:=J.live _ _ hAt' b hb;exact yz.none e (hn5 b hb)
      have At8:J.At rest s8.heap:=J.frame rest h' s8.heap hAt' (λb hb o e=>(yz.keep b o e (hn5 b hb) (hfp b hb).2.2.1).exact (J.nd hAt' hb e)) (x6.vkeep yz);exact wpAny_pure ⟨rfl,rest.length,by rw [<-hlen];simp,rest,ρ8,σ8,rfl,y6.trans yz,x8,At8,n8,q8⟩
    · rintro r s' ⟨v,rfl,hv⟩;refine wpAny_bind (wpAny_mono hv ?_ λ_ _ z=>z);intro _ s'' h'';exact wpAny_mono h'' (λ_ _ z=>z) λ_ _ z=>z.elim
inductive WG (S:Sys) (F Fc:Frm) (sc scope:Scope) (ρ:Rho) (σ:MH) (s:Shared) (J:Jn S) (items:List V) (σ4:MH) (s4:Shared):Prop where
  | mk (env:Fc.env.scope=relabel scope (Zg sc)) (isFn:Fc.isFn=false) (fr:Fc.fr=none) (hist:Ze Fc.own σ s σ4 s4) (x:St S Fc (ZB scope.names ρ) σ4 s4) (at_:J.At items s4.heap)
    (fp:∀b∈J.fp,s.heap.get? b=none/\Fc.s0.heap.get? b=none/\¬ Fc.own b/\(∀z c,Fc.env.cells.lookup z=some c->c≠b)/\S.h0.get? b=none/\σ4 b=none)
    (back:∀ρ' σ' s',Ze Fc.own σ s σ' s'->St S Fc ρ' σ' s'->A6 (Ze ZI σ s σ' s') (St S F ρ σ' s') (s.heap.get? Fc.env.locals=none) (K7 S F s [Fc.env.locals]) (σ' Fc.env.locals=none) (∃m,s'.heap.Ns Fc.env.locals m)):WG S F Fc sc scope ρ σ s J items σ4 s4
theorem Vf {elt t1 i1:Expr} {ifs:List Expr} {gs:List Comprehension} {scope sc:Scope} {pos pos':Pos} {use:Option (Value->Sem Unit)} {Q0:Value->Shared->Prop} {A:Around} {s:Shared} {E:Value->Shared->Prop}
    {SP:Addr->List V->(MH->Prop)->Bool->MH->Prop}
    (hs:∀x,foldedSetIterable i1 F.env x=pure x) (hsc:F.env.scope=sc) (hck:Y0 scope.names ρ sc=true) (hkind:scope.kind=.function) (hR:Yz F n A) (y:St S F ρ σ s)
    (h:WIt S F n i1 ρ σ (λitems G pairs σ1=>∀a,σ1 a=none->SP a items G pairs σ1) X)
    (hE:∀e s',EX S F X e s'->E e s')
    (loop:∀(Fc:Frm) (J:Jn S) items σ1 a s4,SP a items J.G J.pairs σ1->WG S F Fc sc scope ρ σ s J items (σ1.set a (.list [])) s4->
      codeAny S.M A (.compLoop (.ListComp elt (⟨t1,i1,ifs,0⟩::gs) scope pos) 0 J.it (.ref a) Fc.env) (compPost S.M A E use Q0 (.ref a) Fc.env.locals) s4) :
    wpAny S.M A (comprehension (.ListComp elt (⟨t1,i1,ifs,0⟩::gs) scope pos) scope F.env pos' (newList []) false (eval i1 F.env) use) Q0 E s:=by
  have hck':=hck;unfold Y0 at hck';simp only [Bool.and_eq_true,decide_eq_true_eq,List.all_eq_true,Bool.or_eq_true,bne_iff_ne,ne_eq,beq_iff_eq,Bool.not_eq_true'] at hck';obtain ⟨⟨hn,hnc⟩,hfree⟩:=hck';have freeAt:∀z,(z,NameKind.free)∈scope.names->∃c,F.env.cells.lookup z=some c:=by
    intro z hz;rcases hfree _ hz with h1 | ⟨h1,h2⟩
    · exact absurd rfl h1
    · obtain ⟨⟨w,o⟩,hw,he⟩:=List.any_eq_true.mp h2;have:=eq_of_beq he;subst this;obtain ⟨c,hc,_⟩:=y.fr.cell w o hw (by unfold Env.kindOf;rw [hsc];exact h1);exact ⟨c,hc⟩
  refine wpAny_comprehension_free (use:=use) (g:=⟨t1,i1,ifs,0⟩) (gs:=gs) rfl hs (VT freeAt) hkind (λp hp hl=>?_) (wpAny_mono (h A s _ hR y ?_) (λ_ _ z=>wpAny_mono z (λ_ _ z=>z) λe s' z=>hE e s' z) λe s' z=>hE e s' z)
  · obtain ⟨a,b⟩:=p;simp only at hl;subst hl;exact Xv hn hp
  rintro items G pairs σ1 s1 J hI y1 x1 hJG hJp hAt hfp;subst hJG hJp;refine wpAny_newList ?_ (by decide);obtain ⟨y3,x3⟩:=x1.alloc { cls:=.type "list",data:=.seq ([]:List Value).toArray } (.list []) s1.toks ⟨[],_,Heap.get?_push_size _ rfl,Zc.nil⟩;generalize hs3:({ s1 with heap:=s1.heap.push { cls:=.type "list",data:=.seq ([]:List Value).toArray } }:Shared)=s3 at y3 x3;have hanone:σ1 s1.heap.objs.size=none:=x1.g.none_of_size (Nat.le_refl _);have hs2a:s1.heap.get? s1.heap.objs.size=none:=Zf _;have keep23:∀b o,s1.heap.get? b=some o->s3.heap.get? b=some o:=λb o e=>by rw [<-hs3];exact Heap.get?_push_of_some _ e
  have hI':=hI _ hanone;have fpn4:∀b∈J.fp,(σ1.set s1.heap.objs.size (.list [])) b=none:=by
    intro b hb;obtain ⟨o,e,_⟩:=J.live _ _ hAt b hb;rw [MH.set_ne (λq=>by subst q;rw [hs2a] at e;cases e)];exact (hfp b hb).2
  have y13:=y1.trans y3;have go:∀Fc s4,WG S F Fc sc scope ρ σ s J items (σ1.set s1.heap.objs.size (.list [])) s4->codeAny S.M A (.compLoop (.ListComp elt (⟨t1,i1,ifs,0⟩::gs) scope pos) 0 J.it (.ref s1.heap.objs.size) Fc.env) (compPost S.M A E use Q0 (.ref s1.heap.objs.size) Fc.env.locals) s4:=
    λFc s4 c=>loop Fc J items σ1 _ s4 hI' c
  clear hs2a hs3 y3 hI hI' h loop hanone;generalize σ1.set s1.heap.objs.size (.list [])=σ4 at y13 x3 fpn4 go;refine wpAny_newFunctionEnv (λp hp=>(hnc p hp).2) (λp hp=>nomatch hp) (λh4 hns hsb=>?_) hkind;have keep34:∀b o,s3.heap.get? b=some o->h4.get? b=some o:=λb o e=>hsb.extBut b o (λq=>by subst q;rw [Zf] at e;cases e) (Heap.get?_push_of_some _ e);let Fc:Frm:=⟨{ newEnv scope s3.heap.objs.size F.env.globals (JQ F.env scope.names []) F.env.qual none .none (some F.env) builtinsNs with scope:=relabel scope F.env },[],false,σ,s,none⟩
  have x4:=x3.comp (tk:=s3.toks+([]:List (Str×Value)).length) hsc hck hkind hns keep34 Fc y13 rfl;have fcOwn:∀b,Fc.own b->b=s3.heap.objs.size:=λb h1=>h1.elim id λh1=>by cases h1
  have hC:s3.heap.get? s3.heap.objs.size=none:=Zf _;have hCs:s.heap.get? s3.heap.objs.size=none:=by
    cases e:s.heap.get? s3.heap.objs.size with
    | none=>rfl
    | some o=>obtain ⟨o',e'⟩:=y13.alive _ o e;rw [hC] at e';cases e'
  have keep24:∀b o,s1.heap.get? b=some o->h4.get? b=some o:=λb o e=>keep34 b o (keep23 b o e);have At4:J.At items h4:=J.frame _ _ _ hAt (λb hb o e=>keep24 b o e) λb o e _=>keep24 b o e;have CA:WG S F Fc sc scope ρ σ s J items σ4 { s3 with heap:=h4,toks:=s3.toks+([]:List (Str×Value)).length }:=by
    refine ⟨VR hsc scope,rfl,rfl,x4.hist,x4,At4,λb hb=>?_,λρ' σ' s' y6 x6=>?_⟩
    · obtain ⟨o,e,_⟩:=J.live _ _ hAt b hb;refine ⟨(hfp b hb).1,(hfp b hb).1,λq=>?_,λz c hc=>?_,y.g.base_none (hfp b hb).1,fpn4 b hb⟩
      · have e2:=keep23 b o e;rw [fcOwn b q,hC] at e2;cases e2
      · have:F.env.cells.lookup z=some c:=KA freeAt (λ_ _ q=>by simp at q) hc;rintro rfl;obtain ⟨u',oc,ho,_⟩:=y.fr.allCells z c this;rw [(hfp c hb).1] at ho;cases ho
    · have own6:Ze ZI σ s σ' s':=⟨λb o e hb _=>y6.keep b o e hb (λq=>by rw [fcOwn b q,hCs] at e;cases e),y6.alive,y6.dom,y6.os⟩;obtain ⟨m6,hm6,_⟩:=x6.fr.loc;exact ⟨own6,y.step own6 x6.g,hCs,y.fresh λb hb=>by rw [List.mem_singleton.mp hb];exact hCs,x6.lo.2,m6,hm6⟩
  exact codeAny_compStart_list (go Fc _ CA) (J.self A _ _ items _ At4 (go Fc _ CA))
theorem Wv {elt target iter:Expr} {ifs:List Expr} {scope sc:Scope} {pos pos':Pos} {use:Option (Value->Sem Unit)} {Q0:Value->Shared->Prop} {A:Around} {s:Shared} {E:Value->Shared->Prop} {QR:Addr->List V->MH->Prop}
    (hs:∀x,foldedSetIterable iter F.env x=pure x) (hsc:F.env.scope=sc) (hck:Y0 scope.names ρ sc=true) (hkind:scope.kind=.function) (hR:Yz F n A) (y:St S F ρ σ s)
    (h:WIt S F n iter ρ σ (λitems G pairs σ1=>(YF target=true\/(Yb target=true/\pairs=false))/\
      ∀a,σ1 a=none->XI S F n sc scope elt target ifs items G a (ZB scope.names ρ) σ1 (QR a)) X)
    (hE:∀e s',EX S F X e s'->E e s')
    (fin:∀a acc σ' s' C,Ze ZI σ s σ' s'->St S F ρ σ' s'->σ' a=some (.list acc)->QR a acc σ'->s.heap.get? C=none->K7 S F s [C]->σ' C=none->(∃m,s'.heap.Ns C m)->
      compPost S.M A E use Q0 (.ref a) C (.ok .next) s') :
    wpAny S.M A (comprehension (.ListComp elt [⟨target,iter,ifs,0⟩] scope pos) scope F.env pos' (newList []) false (eval iter F.env) use) Q0 E s:=by
  refine Vf (gs:=[]) hs hsc hck hkind hR y (SP:=λa items G pairs σ1=>(YF target=true\/(Yb target=true/\pairs=false))/\XI S F n sc scope elt target ifs items G a (ZB scope.names ρ) σ1 (QR a)) ?_ hE ?_
  · intro A s P hR x k;exact h A s P hR x λitems G pairs σ1 s1 J zz=>by obtain ⟨tg,hI⟩:=zz;exact k items G pairs σ1 s1 J λa ha=>⟨tg,hI a ha⟩
  rintro Fc J items σ1 a s4 ⟨tg,⟨I,hI0,hIG,hturn,hfin⟩⟩ CA;obtain ⟨ce,cf,cr,cy,cx,ca,cp,back⟩:=CA;refine Kd (J:=J) (target:=target) (items:=items) rfl rfl (turn1 elt target iter ifs scope pos J.it (.ref a) Fc.env) tg (hR.of cr) cy cx ca cp
    (λits ρ' σ'=>∃acc,I its acc ρ' σ') ⟨[],hI0⟩ (λits ρ' σ' zz=>by obtain ⟨acc,hi⟩:=zz;exact (hIG _ _ _ _ hi).1) ?_ ?_
  · rintro x rest ρ' σ' ⟨acc,hi⟩ u A2 s5 hR5 x5 r5;refine wpAny_mono (hturn Fc ce cf x rest acc ρ' σ' hi u A2 s5 hR5 x5 r5) ?_ λ_ _ z=>z;rintro _ s6 ⟨ρ6,σ6,y6,x6,q6⟩;refine ⟨ρ6,σ6,y6,x6,?_⟩;intro A3 s7 hR7 x7;refine wpAny_bind (q6.run hR7 x7 ?_);intro ok σ8 s8 y8 x8 q8;cases ok with
    | false=>exact wpAny_pure ⟨(),ρ6,σ8,y8.from_no,x8,trivial,acc,q8⟩
    | true=>
      refine wpAny_bind (wpAny_mono (q8 A3 s8 hR7 x8) ?_ λ_ _ z=>z);rintro w s9 ⟨m9,σ9,y9,x9,r9,hl9,ha9,q9⟩;obtain ⟨us,kk,ho9,rs9⟩:=(x9.g.objs _ _ ha9).2;refine wpAny_bind (append_at ho9 (λh10 hs10 ho10=>?_) (by
        have:=rs9.length;rw [List.size_toArray,<-this];exact Nat.le_trans hl9 (by decide)))
      obtain ⟨y10,x10⟩:=x9.upd ha9 s9.toks hs10 (mo':=.list (acc++[m9])) (λvk=>⟨us++[w],kk+1,by simpa using ho10,(rs9.snoc r9).keep vk⟩);exact wpAny_pure ⟨(),ρ6,_,(y8.trans (y9.trans y10)).from_no,x10,trivial,_,q9⟩
  · rintro ρ' σ' s' y' x' ⟨acc,hi⟩;obtain ⟨b1,b2,b3,b4,b5,b6⟩:=back ρ' σ' s' y' x';exact fin a acc σ' s' _ b1 b2 (hIG _ _ _ _ hi).2 (hfin _ _ _ hi) b3 b4 b5 b6
end
set_option tactic.hygienic false
section
variable {S:Sys} {F:Frm} {n:Nat×Nat} {ρ:Rho} {σ:MH} {X:MH->Prop}
theorem UA {s s':Shared} {σ':MH} {ρ':Rho} {C:Addr} {h':Heap} (y:Ze F.own σ s σ' s') (x:St S F ρ' σ' s') (hf:K7 S F s [C]) (hc:σ' C=none) (hn:∃m,s'.heap.Ns C m) (hs:Heap.SameBut C s'.heap h') :
    St S F ρ' σ' { s' with heap:=h' }/\Ze F.own σ s σ' { s' with heap:=h' }/\ZJ s'.heap h':=by
  obtain ⟨m,hm⟩:=hn;refine x.touch (fp:=[C]) s'.toks y (λb o e hb=>(hs.2 b (by simpa using hb)).trans e) λb hb=>?_;simp only [List.mem_singleton] at hb;subst hb;obtain ⟨a1,a2,a3,a4,a5⟩:=hf b (by simp);obtain ⟨o,es,ep,ho,hd,r⟩:=id hm;exact ⟨a1,a2,hc,a3,a4,a5,o,ho,JG hm ho⟩
theorem Wl {Q:V->MH->Prop} {elt target iter:Expr} {ifs:List Expr} {scope sc:Scope} {pos:Pos}
    (hs:∀x,foldedSetIterable iter F.env x=pure x) (hsc:F.env.scope=sc) (hck:Y0 scope.names ρ sc=true) (hkind:scope.kind=.function)
    (h:WIt S F n iter ρ σ (λitems G pairs σ1=>(YF target=true\/(Yb target=true/\pairs=false))/\
      ∀a,σ1 a=none->XI S F n sc scope elt target ifs items G a (ZB scope.names ρ) σ1 (λ_ σ'=>Q (.ref a) σ')) X) :
    WE S F n (eval (.ListComp elt [⟨target,iter,ifs,0⟩] scope pos) F.env) ρ σ Q X:=by
  intro A s hR y;rw [eval_ListComp];refine Wv (use:=none) (QR:=λa _ σ'=>Q (.ref a) σ') hs hsc hck hkind hR y h (λ_ _ z=>z) ?_;intro a acc σ' s' C y1 x1 ha q hC hf hcn hn;obtain ⟨m,hm⟩:=hn;refine ⟨m,hm,λh' hs'=>?_⟩;obtain ⟨x2,y2,_⟩:=UA (y1.from_no (own:=F.own)) x1 hf hcn ⟨m,hm⟩ hs';refine ⟨.ref a,σ',?_,x2,by first | exact rfl | exact ⟨_,rfl⟩,q⟩;exact ⟨λb o e hb _=>(y1.keep b o e hb id).then λo' e'=>.inl ((hs'.2 b (λz=>by subst z;rw [hC] at e;cases e)).trans e'),y2.alive,y2.dom,y2.os⟩
theorem KV {Q:MF->Rho->MH->Prop} {x:Str} {xp spos:Pos} {elt target iter:Expr} {ifs:List Expr} {scope sc:Scope} {pos:Pos}
    (hs:∀x,foldedSetIterable iter F.env x=pure x) (hsc:F.env.scope=sc) (hck:Y0 scope.names ρ sc=true) (hkind:scope.kind=.function) (hF:F.isFn=true)
    (hsw:swapsWith (.ListComp elt [⟨target,iter,ifs,0⟩] scope pos) (some (.Name x xp)) spos.line F.env=pure true)
    (h:WIt S F n iter ρ σ (λitems G pairs σ1=>(YF target=true\/(Yb target=true/\pairs=false))/\
      ∀a,σ1 a=none->XI S F n sc scope elt target ifs items G a (ZB scope.names ρ) σ1 (λ_ σ'=>∃ρ',UpdR ρ x (.ref a) ρ'/\Q .next ρ' σ')) X) :
    WS S F n (exec (.Assign [.Name x xp] (.ListComp elt [⟨target,iter,ifs,0⟩] scope pos) spos) F.env) ρ σ Q X:=by
  intro A s hR y;rw [exec_Assign_Name_used _ _ _ _ hsw];refine wpAny_bind (wpAny_standAt (wpAny_bind ?_));show wpAny _ A (do let _<-comprehension (.ListComp elt [⟨target,iter,ifs,0⟩] scope pos) scope F.env _ (newList []) false (eval iter F.env) (some (assign (.Name x xp) F.env))) _ _ s;refine wpAny_bind (wpAny_mono (Wv (use:=some (assign (.Name x xp) F.env)) (Q0:=λ_ s'=>PWX S F FRep σ s Q Flow.next s') (E:=EX S F X)
    (QR:=λa _ σ'=>∃ρ',UpdR ρ x (.ref a) ρ'/\Q .next ρ' σ') hs hsc hck hkind hR y h (λ_ _ z=>z) ?_) (λ_ s' hq=>wpAny_pure (wpAny_pure hq)) λ_ _ z=>z)
  intro a acc σ' s' C y1 x1 ha q hC hf hcn hn;obtain ⟨ρ',U,q⟩:=q;refine wpAny_assign_Name (x1.store U (by first | exact rfl | exact ⟨_,rfl⟩) (.inl hF) λs2 y2 x2=>?_);obtain ⟨m,hm⟩:=hn;have hCown:¬ F.own C:=(hf C (by simp)).2.2.1;have hm2:s2.heap.Ns C m:=XW.ns hm λo e=>y2.keep C o e hcn hCown;refine ⟨m,hm2,λh' hs'=>?_⟩;obtain ⟨x3,y3,_⟩:=UA ((y1.from_no (own:=F.own)).trans y2) x2 hf hcn ⟨m,hm2⟩ hs';exact ⟨.next,ρ',σ',y3,x3,rfl,q⟩
noncomputable def UpdRs:Rho->List Str->List V->Rho->Prop
  | ρ,[],[],ρ'=>ρ'=ρ
  | ρ,x::xs,m::ms,ρ'=>∃ρ1,UpdR ρ x m ρ1/\UpdRs ρ1 xs ms ρ'
  | _,_,_,_=>False
noncomputable def WY (S:Sys) (F:Frm) (n:Nat×Nat):List Expr->List V->Rho->MH->(Rho->MH->Prop)->(MH->Prop)->Prop
  | [],[],ρ,σ,Q,_=>Q ρ σ
  | t::ts,m::ms,ρ,σ,Q,X=>WA S F n (assign t F.env) m ρ σ (λρ1 σ1=>WY S F n ts ms ρ1 σ1 Q X) X
  | _,_,_,_,_,_=>False
theorem Kn {env:Env}:∀{es:List Expr},es.all Zt=true->assignEach es env=es.map λe=>(false,assign e env):=λ{es}=>by
  induction es with
  | nil=>intro _;rfl
  | cons e r ih=>
    intro h;simp only [List.all_cons,Bool.and_eq_true] at h;have ih:=ih h.2;cases e <;> first | exact congrArg (List.cons (false,assign _ env)) ih | (exact absurd (show false=true from h.1) Bool.false_ne_true)
theorem draw_all {J:Jn S} {own':Addr->Prop} {A:Around} {E:Value->Shared->Prop} {s0:Shared} {σ:MH} {ρ:Rho} {hR:A.handled=none} {hp:J.pairs=false} (hfr:K7 S F s0 J.fp) (hnone:∀b∈J.fp,σ b=none) (hG:J.G σ) :
    ∀(items:List V) (s:Shared) (P:List Value->Shared->Prop),St S F ρ σ s->Ze own' σ s0 σ s->J.At items s.heap->
      (∀us s',St S F ρ σ s'->Ze own' σ s0 σ s'->J.At [] s'.heap->Zc s'.heap items us->ZJ s.heap s'.heap->P us s')->wpAny S.M A (draw J.it items.length) P E s:=λitems=>by
  induction items with
  | nil=>
    intro s P x y hA h;show wpAny _ _ (pure []) _ _ s;exact wpAny_pure (h [] s x y hA Zc.nil (ZJ.refl _))
  | cons m ms ih=>
    intro s P x y hA h;show wpAny _ _ (pyNext J.it >>= _) _ _ s;have tb:UN S F s0 σ s J.fp:=λb hb=>
      by obtain ⟨a1,a2,a3,a4,a5⟩:=hfr b hb;exact ⟨a1,a2,hnone b hb,a3,a4,a5,J.live _ _ hA b hb⟩
    refine wpAny_bind (wpAny_mono (J.next (.Name "x" default) A E σ s m ms (λu s'=>wpAny S.M A (do return u::(<-holding [u] (draw J.it ms.length))) P E s') (.inr ⟨rfl,hp⟩) hR x.g hG hA λh' t u hk ru hA'=>?_) ?_ λ_ _ z=>z)
    · obtain ⟨x2,y2,vk2⟩:=x.touch t y hk tb;refine wpAny_bind (wpAny_holding (ih _ _ x2 y2 hA' λus s' x3 y3 hA3 r3 vk3=>wpAny_pure (h (u::us) s' x3 y3 hA3 (Zc.cons (ru.keep vk3) r3) (vk2.trans vk3))))
    · rintro r s1 ⟨v,rfl,hv⟩;have hv':=wpAny_bind hv;exact hv'
noncomputable def JZ (S:Sys) (m:V) (σ:MH) (items:List V) (G:MH->Prop):Prop:=
  Kf S m σ items G false/\∀u A (E:Value->Shared->Prop) s (P:Bool->Shared->Prop),StG S σ s->Zv s.heap m u->P false s->wpAny S.M A (notIterableAtAll u) P E s
theorem ZW {ms:List V}:JZ S (.tup ms) σ ms (λ_=>True):=by
  refine ⟨mk_tup,λu A E s P g r h=>?_⟩;obtain ⟨x,its,rfl,⟨o,ho,hc,_⟩,_⟩:=r;unfold notIterableAtAll;refine wpAny_bind (wpAny_specialOf (T:="tuple") ⟨o,ho,hc⟩ PySem.F.slot_tuple_iter.lookup ?_);exact wpAny_pure h
theorem X6 {A:Around} {E:Value->Shared->Prop} {s:Shared} {m:V} {u:Value} {items:List V} {G:MH->Prop} {P:List Value->Shared->Prop} (hR:A.handled=none) (x:St S F ρ σ s) (hc:JZ S m σ items G) (hG:G σ) (r:Zv s.heap m u)
    (h:∀us s',St S F ρ σ s'->Ze ZI σ s σ s'->Zc s'.heap items us->P us s'):wpAny S.M A (unpackItems u items.length none) P E s:=by
  unfold unpackItems;refine wpAny_bind (hc.2 u A E s _ x.g r ?_);simp only [Bool.false_eq_true,if_false];refine wpAny_bind (wpAny_holding (hc.1 u A E s _ x.g r λJ h2 t2 hJG hJp hfp hkeep hAt=>?_));have st2:Ze ZI σ s σ { s with heap:=h2,toks:=t2 }:=⟨λb o e _ _=>.inl (hkeep b o e),λb o e=>⟨o,hkeep b o e⟩,λ_ q=>.inl q,rfl⟩;have x2:St S F ρ σ { s with heap:=h2,toks:=t2 }:=x.step st2 ⟨λb o e=>hkeep b o (x.g.base b o e),λb mo e=>⟨(x.g.objs b mo e).1,(x.g.objs b mo e).2.keep (λo e'=>hkeep b o e') λb o e _=>hkeep b o e⟩,x.g.gens⟩;have hfr:K7 S F s J.fp:=x.fresh hfp;have hnone:∀b∈J.fp,σ b=none:=λb hb=>by
    cases e':σ b with
    | none=>rfl
    | some mo=>obtain ⟨o2,ho2⟩:=(x.g.objs b mo e').2.at;rw [hfp b hb] at ho2;cases ho2
  have hJG':J.G σ:=by rw [hJG];exact hG
  refine wpAny_bind (wpAny_holding (draw_all (hR:=hR) (hp:=hJp) hfr hnone hJG' items _ _ x2 st2 hAt λus s3 x3 y3 hA3 r3 _=>?_));have hlen:us.length=items.length:=r3.length.symm;rw [if_neg (by lia)];refine wpAny_bind (wpAny_holding (J.stop A E σ s3 _ hR x3.g hJG' hA3 λh' t hk=>?_));obtain ⟨x4,y4,vk4⟩:=x3.touch t y3 hk λb hb=>by obtain ⟨a1,a2,a3,a4,a5⟩:=hfr b hb;exact ⟨a1,a2,hnone b hb,a3,a4,a5,J.live _ _ hA3 b hb⟩
  simp only [Option.isSome_none,Bool.false_eq_true,if_false];exact wpAny_pure (h us _ x4 y4 (r3.keep vk4))
theorem Km {A:Around} {P:Unit->Shared->Prop} {QA:Rho->MH->Prop} (hR:Yz F n A):∀{ts:List Expr} {ms:List V} {us:List Value} {ρ:Rho} {σ:MH} {s:Shared},St S F ρ σ s->Zc s.heap ms us->WY S F n ts ms ρ σ QA X->
    (∀ρ' σ' s',Ze F.own σ s σ' s'->St S F ρ' σ' s'->QA ρ' σ'->P () s')->wpAny S.M A (assignInOrder (ts.map λe=>assign e F.env) us) P (EX S F X) s:=λ{ts}=>by
  induction ts with
  | nil=>
   intro ms us ρ σ s x r h k;cases ms with
   | cons _ _=>exact h.elim
   | nil=>
    simp only [vs0,vs1] at r;subst r;show wpAny _ _ (pure ()) _ _ s;exact wpAny_pure (k ρ σ s (Ze.refl ..) x h)
  | cons t ts ih=>
   intro ms us ρ σ s x r h k;cases ms with
   | nil=>exact h.elim
   | cons m ms=>
    obtain ⟨u,us',rfl,r1,r2⟩:=r;show wpAny _ _ (holding us' (assign t F.env u) >>= λ_=>assignInOrder (ts.map λe=>assign e F.env) us') _ _ s;refine wpAny_bind (wpAny_holding (wpAny_mono (h u A s hR x r1) ?_ λ_ _ z=>z));rintro _ s1 ⟨ρ1,σ1,y1,x1,q1⟩;exact ih x1 (r2.keep (x.vkeep y1)) q1 λρ' σ' s' y' x' q'=>k ρ' σ' s' (y1.trans y') x' q'
theorem WJ {elts:List Expr} {kk:Nat} {pos:Pos} {m:V} {items:List V} {G:MH->Prop} {QA:Rho->MH->Prop} (hp:elts.all Zt=true) (hl:elts.length=items.length) (hc:JZ S m σ items G) (hG:G σ)
    (h:WY S F n elts items ρ σ QA X):WA S F n (assign (.Tuple elts kk pos) F.env) m ρ σ QA X:=by
  intro u A s hR x r;show wpAny _ _ (standAt pos >>= λ_=>unpack u (assignEach elts F.env)) _ _ s;refine wpAny_bind (wpAny_standAt ?_);unfold unpack;rw [Kn hp];have e1:(elts.map λe=>(false,assign e F.env)).length=items.length:=by simp [hl]
  have e2:(elts.map λe=>(false,assign e F.env)).findIdx? (·.1)=none:=by
    rw [List.findIdx?_eq_none_iff];intro p hp;obtain ⟨e,_,rfl⟩:=List.mem_map.mp hp;rfl
  have e3:(elts.map λe=>(false,assign e F.env)).map (·.2)=elts.map λe=>assign e F.env:=by simp [List.map_map,Function.comp_def]
  rw [e1,e2,e3];refine wpAny_bind (wpAny_holding (X6 hR.1 x hc hG r λus s1 x1 y1 r1=>?_));exact Km hR x1 r1 h λρ' σ' s' y' x' q'=>⟨ρ',σ',(y1.from_no (own:=F.own)).trans y',x',q'⟩
theorem JM {Q:MF->Rho->MH->Prop} {elts:List Expr} {kk:Nat} {tpos pos:Pos} {e:Expr}
    (h:WE S F n (eval e F.env) ρ σ (λm σ1=>WA S F n (assign (.Tuple elts kk tpos) F.env) m ρ σ1 (λρ' σ'=>Q .next ρ' σ') X) X)
    (hs:swapsWithSole [.Tuple elts kk tpos] e pos.line F.env=pure false) (hw:swappedStores [.Tuple elts kk tpos] e F.env=pure none) :
    WS S F n (exec (.Assign [.Tuple elts kk tpos] e pos) F.env) ρ σ Q X:=by
  intro A s hR y;refine Assign_Tuple (wpAny_mono (h A s hR y) ?_ λ_ _ z=>z) hs hw;rintro u s1 ⟨m,σ1,y1,x1,r1,q1⟩;refine wpAny_mono (q1 u A s1 hR x1 r1) ?_ λ_ _ z=>z;rintro _ s2 ⟨ρ',σ',y2,x2,q2⟩;exact ⟨.next,ρ',σ',(y1.from_no (own:=F.own)).trans y2,x2,rfl,q2⟩
theorem K0 {A:Around} {P:Unit->Shared->Prop} (hF:F.isFn=true):∀{xs:List Str} {ms:List V} {us:List Value} {ρ ρ':Rho} {s:Shared},St S F ρ σ s->Zc s.heap ms us->UpdRs ρ xs ms ρ'->
    (∀s',Ze F.own σ s σ s'->St S F ρ' σ s'->P () s')->wpAny S.M A (assignInOrder (xs.map λx=>bindName F.env x) us) P (EX S F X) s:=λ{xs}=>by
  induction xs with
  | nil=>
   intro ms us ρ ρ' s x r h k;cases ms with
   | cons _ _=>exact h.elim
   | nil=>
    simp only [vs0,vs1] at r;subst r;obtain rfl:ρ'=ρ:=h;show wpAny _ _ (pure ()) _ _ s;exact wpAny_pure (k s (Ze.refl ..) x)
  | cons y xs ih=>
   intro ms us ρ ρ' s x r h k;cases ms with
   | nil=>exact h.elim
   | cons m ms=>
    obtain ⟨u,us',rfl,r1,r2⟩:=r;obtain ⟨ρ1,U,h⟩:=h;show wpAny _ _ (holding us' (bindName F.env y u) >>= λ_=>assignInOrder (xs.map λx=>bindName F.env x) us') _ _ s;refine wpAny_bind (wpAny_holding (wpAny_bindName (x.store U r1 (.inl hF) λs1 y1 x1=>?_)));exact ih x1 (r2.keep (x.vkeep y1)) h λs' y' x'=>k s' (y1.trans y') x'
theorem Jb {Q:MF->Rho->MH->Prop} {elts:List Expr} {kk:Nat} {tpos pos:Pos} {e:Expr} {xs:List Str} (hF:F.isFn=true)
    (h:WE S F n (eval e F.env) ρ σ (λm σ1=>∃ms ρ',m=.tup ms/\ms.length=xs.length/\UpdRs ρ xs.reverse ms.reverse ρ'/\Q .next ρ' σ1) X)
    (hs:swapsWithSole [.Tuple elts kk tpos] e pos.line F.env=pure false) (hw:swappedStores [.Tuple elts kk tpos] e F.env=pure (some xs)) :
    WS S F n (exec (.Assign [.Tuple elts kk tpos] e pos) F.env) ρ σ Q X:=by
  intro A s hR y;have e0:exec (.Assign [.Tuple elts kk tpos] e pos) F.env=(do
      standAt pos
      if<-swapsWithSole [.Tuple elts kk tpos] e pos.line F.env then do
        evalThenUse e F.env λv=>assignAll v ((assignEach [.Tuple elts kk tpos] F.env).map (·.2))
        pure .next
      else do
        let v<-eval e F.env
        assignStores F.env v (<-swappedStores [.Tuple elts kk tpos] e F.env) ((assignEach [.Tuple elts kk tpos] F.env).map (·.2))):=rfl
  rw [e0,hs];refine wpAny_bind (wpAny_standAt (wpAny_bind (wpAny_pure ?_)));simp only [Bool.false_eq_true,if_false];refine wpAny_bind (wpAny_mono (h A s hR y) ?_ λ_ _ z=>z);rintro u s1 ⟨m,σ1,y1,x1,r1,ms,ρ',rfl,hl,U,q⟩;rw [hw];refine wpAny_bind (wpAny_pure ?_);show wpAny _ _ (assignStores F.env u (some xs) _) _ _ s1;unfold assignStores;show wpAny _ _ (rule "assign.swapped-stores" >>= λ_=>unpackItems u xs.length none >>= λitems=>assignInOrder (xs.reverse.map λn=>bindName F.env n) items.reverse >>= λ_=>pure Flow.next) _ _ s1;refine wpAny_bind (wpAny_rule ?_);rw [<-hl];refine wpAny_bind (X6 hR.1 x1 ZW trivial r1 λus s2 x2 y2 r2=>?_);refine wpAny_bind (K0 hF x2 r2.reverse U λs3 y3 x3=>?_);exact wpAny_pure ⟨.next,ρ',σ1,((y1.trans y2).from_no (own:=F.own)).trans y3,x3,rfl,q⟩
end
set_option tactic.hygienic false
section
variable {S:Sys} {F:Frm} {n:Nat×Nat} {ρ:Rho} {σ:MH} {Q:V->MH->Prop} {X:MH->Prop}
theorem Yd {F:Frm} {n:Nat×Nat} {A:Around} (h:Yz F n A):A.units+70<cLine:=by
  obtain ⟨_,⟨_,_,h,_⟩,_⟩:=h;have:cLine=9900:=rfl;lia
theorem Jp {a b:Int} (q:Q (.int (a+b)) σ):Z6 S F n (binaryOp .Add) (.int a) (.int b) ρ σ Q X:=by
  intro u1 u2 A s hR x r1 r2;simp only [vr0,vr1,vr2,vr3,vr4,vr5,vr6,vr7] at r1 r2;obtain ⟨t1,rfl⟩:=r1;obtain ⟨t2,rfl⟩:=r2;exact add_int ⟨_,σ,Ze.toks ..,x.toks _,by first | exact rfl | exact ⟨_,rfl⟩,q⟩
theorem Q2 {a b:Int} (q:Q (.int (a-b)) σ):Z6 S F n (binaryOp .Sub) (.int a) (.int b) ρ σ Q X:=by
  intro u1 u2 A s hR x r1 r2;simp only [vr0,vr1,vr2,vr3,vr4,vr5,vr6,vr7] at r1 r2;obtain ⟨t1,rfl⟩:=r1;obtain ⟨t2,rfl⟩:=r2;exact sub_int ⟨_,σ,Ze.toks ..,x.toks _,by first | exact rfl | exact ⟨_,rfl⟩,q⟩
theorem p_mul {a b:Int} (q:Q (.int (a * b)) σ) (ok:IntMulOk a b):Z6 S F n (binaryOp .Mult) (.int a) (.int b) ρ σ Q X:=by
  intro u1 u2 A s hR x r1 r2;simp only [vr0,vr1,vr2,vr3,vr4,vr5,vr6,vr7] at r1 r2;obtain ⟨t1,rfl⟩:=r1;obtain ⟨t2,rfl⟩:=r2;exact mul_int ⟨_,σ,Ze.toks ..,x.toks _,by first | exact rfl | exact ⟨_,rfl⟩,q⟩ ok
theorem QU {a b:Int} (hb:b≠0) (q:Q (.int (a.fmod b)) σ):Z6 S F n (binaryOp .Mod) (.int a) (.int b) ρ σ Q X:=by
  intro u1 u2 A s hR x r1 r2;simp only [vr0,vr1,vr2,vr3,vr4,vr5,vr6,vr7] at r1 r2;obtain ⟨t1,rfl⟩:=r1;obtain ⟨t2,rfl⟩:=r2;exact mod_int' hb ⟨_,σ,Ze.toks ..,x.toks _,by first | exact rfl | exact ⟨_,rfl⟩,q⟩
theorem p_div {a b:Int} (hb:b≠0) (hl:Builtin.divisionGoesByPylong a b=false) (q:Q (.int (a.fdiv b)) σ):Z6 S F n (binaryOp .FloorDiv) (.int a) (.int b) ρ σ Q X:=by
  intro u1 u2 A s hR x r1 r2;simp only [vr0,vr1,vr2,vr3,vr4,vr5,vr6,vr7] at r1 r2;obtain ⟨t1,rfl⟩:=r1;obtain ⟨t2,rfl⟩:=r2;exact floordiv_int hb ⟨_,σ,Ze.toks ..,x.toks _,by first | exact rfl | exact ⟨_,rfl⟩,q⟩ (.inl hl)
theorem V2 {a b:Int} (q:Q (.bool (a==b)) σ):Z6 S F n (compareOp .Eq) (.int a) (.int b) ρ σ Q X:=by
  intro u1 u2 A s hR x r1 r2;simp only [vr0,vr1,vr2,vr3,vr4,vr5,vr6,vr7] at r1 r2;obtain ⟨t1,rfl⟩:=r1;obtain ⟨t2,rfl⟩:=r2;exact eq_int ⟨_,σ,Ze.refl ..,x,by first | exact rfl | exact ⟨_,rfl⟩,q⟩
theorem Vh {a b:Int} (q:Q (.bool (a != b)) σ):Z6 S F n (compareOp .NotEq) (.int a) (.int b) ρ σ Q X:=by
  intro u1 u2 A s hR x r1 r2;simp only [vr0,vr1,vr2,vr3,vr4,vr5,vr6,vr7] at r1 r2;obtain ⟨t1,rfl⟩:=r1;obtain ⟨t2,rfl⟩:=r2;exact ne_int ⟨_,σ,Ze.refl ..,x,by first | exact rfl | exact ⟨_,rfl⟩,q⟩
theorem p_lt {a b:Int} (q:Q (.bool (decide (a<b))) σ):Z6 S F n (compareOp .Lt) (.int a) (.int b) ρ σ Q X:=by
  intro u1 u2 A s hR x r1 r2;simp only [vr0,vr1,vr2,vr3,vr4,vr5,vr6,vr7] at r1 r2;obtain ⟨t1,rfl⟩:=r1;obtain ⟨t2,rfl⟩:=r2;exact lt_int ⟨_,σ,Ze.refl ..,x,by first | exact rfl | exact ⟨_,rfl⟩,q⟩
theorem p_le {a b:Int} (q:Q (.bool (decide (a<=b))) σ):Z6 S F n (compareOp .LtE) (.int a) (.int b) ρ σ Q X:=by
  intro u1 u2 A s hR x r1 r2;simp only [vr0,vr1,vr2,vr3,vr4,vr5,vr6,vr7] at r1 r2;obtain ⟨t1,rfl⟩:=r1;obtain ⟨t2,rfl⟩:=r2;exact le_int ⟨_,σ,Ze.refl ..,x,by first | exact rfl | exact ⟨_,rfl⟩,q⟩
theorem p_gt {a b:Int} (q:Q (.bool (decide (a>b))) σ):Z6 S F n (compareOp .Gt) (.int a) (.int b) ρ σ Q X:=by
  intro u1 u2 A s hR x r1 r2;simp only [vr0,vr1,vr2,vr3,vr4,vr5,vr6,vr7] at r1 r2;obtain ⟨t1,rfl⟩:=r1;obtain ⟨t2,rfl⟩:=r2;exact gt_int ⟨_,σ,Ze.refl ..,x,by first | exact rfl | exact ⟨_,rfl⟩,q⟩
theorem p_eqs {a b:Str} (q:Q (.bool (a==b)) σ):Z6 S F n (compareOp .Eq) (.str a) (.str b) ρ σ Q X:=by
  intro u1 u2 A s hR x r1 r2;simp only [vr0,vr1,vr2,vr3,vr4,vr5,vr6,vr7] at r1 r2;obtain ⟨t1,rfl⟩:=r1;obtain ⟨t2,rfl⟩:=r2;exact eq_str ⟨_,σ,Ze.refl ..,x,by first | exact rfl | exact ⟨_,rfl⟩,q⟩
theorem p_nes {a b:Str} (q:Q (.bool (a != b)) σ):Z6 S F n (compareOp .NotEq) (.str a) (.str b) ρ σ Q X:=by
  intro u1 u2 A s hR x r1 r2;simp only [vr0,vr1,vr2,vr3,vr4,vr5,vr6,vr7] at r1 r2;obtain ⟨t1,rfl⟩:=r1;obtain ⟨t2,rfl⟩:=r2;exact PyProof.Rows.ne_str ⟨_,σ,Ze.refl ..,x,by first | exact rfl | exact ⟨_,rfl⟩,q⟩
theorem p_isnotb {a b:Bool} (q:Q (.bool (a != b)) σ):Z6 S F n (compareOp .IsNot) (.bool a) (.bool b) ρ σ Q X:=by
  intro u1 u2 A s hR x r1 r2;simp only [vr0,vr1,vr2,vr3,vr4,vr5,vr6,vr7] at r1 r2;subst r1 r2;refine wpAny_isNot_plain (by cases a <;> cases b <;> rfl) ⟨.bool (a != b),σ,Ze.refl ..,x,?_,q⟩;cases a <;> cases b <;> simp [vr0,vr1,vr2,vr3,vr4,vr5,vr6,vr7] <;> decide
theorem rNeg {e:Expr} {pos:Pos} (h:WE S F n (eval e F.env) ρ σ (λm σ1=>∃a:Int,m=.int a/\Q (.int (-a)) σ1) X):WE S F n (eval (.UnaryOp .USub e pos) F.env) ρ σ Q X:=by
  intro A s hR y;refine wpAny_UnaryOp (wpAny_mono (h A s hR y) ?_ λ_ _ z=>z);rintro u s1 ⟨m,σ1,y1,x1,r1,a,rfl,q⟩;obtain ⟨t,rfl⟩:=r1;exact neg_int ⟨_,σ1,y1.trans (Ze.toks ..),x1.toks _,by first | exact rfl | exact ⟨_,rfl⟩,q⟩
end
set_option tactic.hygienic false
inductive Dt where
  | one (k:Key)
  | many (ks:List Key)
  deriving DecidableEq
noncomputable def Dt.v:Dt->V
  | .one k=>.ofKey k
  | .many ks=>.tup (ks.map .ofKey)
noncomputable def kD:Key->PyData
  | .inl x=>.str x
  | .inr i=>.int i
theorem kD_0 {x:Str}:kD (.inl x)=.str x:=rfl
theorem kD_1 {i:Int}:kD (.inr i)=.int i:=rfl
noncomputable def Dt.d:Dt->PyData
  | .one k=>kD k
  | .many ks=>.tuple (ks.map kD)
noncomputable def kOk:Key->Bool
  | .inl x=>PyData.strOk x
  | .inr _=>true
noncomputable def Dt.ok:Dt->Bool
  | .one k=>kOk k
  | .many ks=>ks.all kOk
theorem kD_lay {k:Key} (h:kOk k=true):(kD k).canLay0=true:=by cases k <;> simpa [kD_0,kD_1,PyData.canLay0,kOk] using h
theorem Ql (k:Key):(kD k).depth=0:=by cases k <;> rfl
theorem U9:∀{ks:List Key},ks.all kOk=true->PyData.canLayAll0 (ks.map kD)=true
  | [],_=>rfl
  | k::r,h=>by
    simp only [List.all_cons,Bool.and_eq_true] at h;simp [PyData.canLayAll0,kD_lay h.1,U9 h.2]
theorem Wu:∀ks:List Key,PyData.depthAll (ks.map kD)=0
  | []=>rfl
  | k::r=>by simp [PyData.depthAll,Ql,Wu r]
theorem Dt.lay {d:Dt} (h:d.ok=true):d.d.canLay0=true:=by
  cases d with
  | one k=>exact kD_lay h
  | many ks=>exact U9 h
theorem Dt.depth (d:Dt):d.d.depth<=1:=by
  cases d with
  | one k=>simp [Dt.d,Ql]
  | many ks=>simp [Dt.d,PyData.depth,Wu]
theorem Dt.lays:∀{ds:List Dt},ds.all Dt.ok=true->PyData.canLayAll0 (ds.map Dt.d)=true
  | [],_=>rfl
  | d::r,h=>by
    simp only [List.all_cons,Bool.and_eq_true] at h;simp [PyData.canLayAll0,Dt.lay h.1,lays h.2]
theorem Dt.depths:∀ds:List Dt,PyData.depthAll (ds.map Dt.d)<=1
  | []=>by simp [PyData.depthAll]
  | d::r=>by
    simp only [List.map_cons,PyData.depthAll];have:=d.depth;have:=depths r;lia
theorem kD_eqv (a b:Key):PyData.eqv (kD a) (kD b)=decide (a=b):=by
  cases a <;> cases b <;> simp only [kD_0,kD_1,PyData.eqv]
  · rw [Bool.eq_iff_iff];simp
  · rfl
  · rfl
  · rw [Bool.eq_iff_iff];simp
theorem kDs_eqv:∀as bs:List Key,PyData.eqvAll (as.map kD) (bs.map kD)=decide (as=bs):=λas=>by
  induction as with
  | nil=>intro bs;cases bs <;> simp [PyData.eqvAll]
  | cons a r ih=>
   intro bs;cases bs with
   | nil=>simp [PyData.eqvAll]
   | cons b t=>
    simp only [List.map_cons,PyData.eqvAll,kD_eqv,ih t];by_cases h:a=b <;> by_cases h':r=t <;> simp [h,h']
theorem Dt.eqv (a b:Dt):PyData.eqv a.d b.d=decide (a=b):=by
  cases a with
  | one x=>
    cases b with
    | one y=>simp [Dt.d,kD_eqv]
    | many ys=>cases x <;> simp [Dt.d,kD_0,kD_1,PyData.eqv]
  | many xs=>
    cases b with
    | one y=>cases y <;> simp [Dt.d,kD_0,kD_1,PyData.eqv]
    | many ys=>simp [Dt.d,PyData.eqv,kDs_eqv]
theorem Dt.eqvs:∀as bs:List Dt,PyData.eqvAll (as.map Dt.d) (bs.map Dt.d)=decide (as=bs):=λas=>by
  induction as with
  | nil=>intro bs;cases bs <;> simp [PyData.eqvAll]
  | cons a r ih=>
   intro bs;cases bs with
   | nil=>simp [PyData.eqvAll]
   | cons b t=>
    simp only [List.map_cons,PyData.eqvAll,Dt.eqv,ih t];by_cases h:a=b <;> by_cases h':r=t <;> simp [h,h']
theorem Wp {h:Heap} {k:Key} {u:Value} (r:Zv h (V.ofKey k) u):Reads h u (kD k) []:=by
  cases k <;> (simp only [V.ofKey,vr0,vr1,vr2,vr3,vr4,vr5,vr6,vr7] at r;obtain ⟨t,rfl⟩:=r)
  · exact .str _ _
  · exact .int _ _
theorem VD {h:Heap}:∀{ks:List Key} {us:List Value},Zc h (ks.map V.ofKey) us->ReadsAll h us (ks.map kD) []
  | [],us,r=>by simp only [List.map_nil,vs0,vs1] at r;subst r;exact .nil
  | k::ks,us,r=>by
    simp only [List.map_cons,vs0,vs1] at r;obtain ⟨u,us',rfl,a,b⟩:=r;exact .cons (as:=[]) (Wp a) (VD b)
theorem XM {h:Heap} {d:Dt} {u:Value} (r:Zv h d.v u):Reads h u d.d []:=by
  cases d with
  | one k=>exact Wp r
  | many ks=>
    simp only [Dt.v,vr0,vr1,vr2,vr3,vr4,vr5,vr6,vr7] at r;obtain ⟨x,items,rfl,⟨o,ho,hc,n,hd⟩,rs⟩:=r;exact .tuple ho hc hd (VD rs)
theorem Y6 {h:Heap}:∀{ds:List Dt} {us:List Value},Zc h (ds.map Dt.v) us->ReadsAll h us (ds.map Dt.d) []
  | [],us,r=>by simp only [List.map_nil,vs0,vs1] at r;subst r;exact .nil
  | d::ds,us,r=>by
    simp only [List.map_cons,vs0,vs1] at r;obtain ⟨u,us',rfl,a,b⟩:=r;exact .cons (as:=[]) (XM a) (Y6 b)
theorem XN {ds:List Dt} (h:ds.all Dt.ok=true):SeqAt.shaped (.list (ds.map Dt.d))=true:=by
  have:=Dt.depths ds;simp only [SeqAt.shaped,PyData.canLay0,Dt.lays h,Bool.true_and,decide_eq_true_eq];show PyData.depthAll (ds.map Dt.d)+1<=64;lia
section
variable {S:Sys} {F:Frm} {n:Nat×Nat} {ρ:Rho} {σ:MH} {Q:V->MH->Prop} {X:MH->Prop}
theorem Zo {h:Heap} {a:Addr} {u:Value} (r:Zv h (.ref a) u):u=.ref a:=by simpa [vr0,vr1,vr2,vr3,vr4,vr5,vr6,vr7] using r
theorem StG.list {s:Shared} (g:StG S σ s) {a:Addr} {ms:List V} (h:σ a=some (.list ms)):∃us n,s.heap.get? a=some (listOf us.toArray n)/\Zc s.heap ms us:=by
  have:=(g.objs _ _ h).2;simpa only [or0,or1,or2,or3,or4] using this
theorem p_eql {a b:Addr} {as bs:List Dt} (oa:as.all Dt.ok=true) (ob:bs.all Dt.ok=true) {ms1 ms2:List V} (ha:σ a=some (.list ms1)) (hb:σ b=some (.list ms2)) (e1:ms1=as.map Dt.v) (e2:ms2=bs.map Dt.v) (q:Q (.bool (decide (as=bs))) σ) :
    Z6 S F n (compareOp .Eq) (.ref a) (.ref b) ρ σ Q X:=by
  subst e1 e2;intro u1 u2 A s hR x r1 r2;have hu:=Yd hR;obtain rfl:=Zo r1;obtain rfl:=Zo r2;obtain ⟨us1,n1,o1,rs1⟩:=x.g.list ha;obtain ⟨us2,n2,o2,rs2⟩:=x.g.list hb;refine eq_dataH (.list o1 rfl rfl (by simpa using Y6 rs1)) (.list o2 rfl rfl (by simpa using Y6 rs2)) (XN oa) (XN ob) (by lia) ?_;simp only [PyData.eqv,Dt.eqvs];exact ⟨_,σ,Ze.refl ..,x,by first | exact rfl | exact ⟨_,rfl⟩,q⟩
theorem Wf {a b:Addr} {as bs:List Dt} (oa:as.all Dt.ok=true) (ob:bs.all Dt.ok=true) {ms1 ms2:List V} (ha:σ a=some (.list ms1)) (hb:σ b=some (.list ms2)) (e1:ms1=as.map Dt.v) (e2:ms2=bs.map Dt.v) (q:Q (.bool (!decide (as=bs))) σ) :
    Z6 S F n (compareOp .NotEq) (.ref a) (.ref b) ρ σ Q X:=by
  subst e1 e2;intro u1 u2 A s hR x r1 r2;have hu:=Yd hR;obtain rfl:=Zo r1;obtain rfl:=Zo r2;obtain ⟨us1,n1,o1,rs1⟩:=x.g.list ha;obtain ⟨us2,n2,o2,rs2⟩:=x.g.list hb;refine ne_dataH (.list o1 rfl rfl (by simpa using Y6 rs1)) (.list o2 rfl rfl (by simpa using Y6 rs2)) (XN oa) (XN ob) (by lia) ?_;simp only [PyData.eqv,Dt.eqvs];exact ⟨_,σ,Ze.refl ..,x,by first | exact rfl | exact ⟨_,rfl⟩,q⟩
theorem anyEq (ds:List Dt) (d:Dt):((ds.map Dt.d).any λy=>PyData.eqv y d.d)=decide (d∈ds):=by
  induction ds with
  | nil=>simp
  | cons a r ih=>
    rw [List.map_cons,List.any_cons,ih,Dt.eqv];by_cases h1:a=d
    · subst h1;simp
    · have h2:¬ d=a:=λq=>h1 q.symm;simp only [List.mem_cons,h1,h2,decide_false,Bool.false_or,false_or]
theorem p_inl {b:Addr} {d:Dt} {ds:List Dt} (oa:d.ok=true) (ob:ds.all Dt.ok=true) {ms:List V} (hb:σ b=some (.list ms)) (e:ms=ds.map Dt.v) (q:Q (.bool (decide (d∈ds))) σ):Z6 S F n (compareOp .In) d.v (.ref b) ρ σ Q X:=by
  subst e;intro u1 u2 A s hR x r1 r2;have hu:=Yd hR;obtain rfl:=Zo r2;obtain ⟨us2,n2,o2,rs2⟩:=x.g.list hb;refine SeqAt.in_list_reads (.list o2 rfl rfl (by simpa using Y6 rs2)) (XM r1) (Dt.lays ob) (Dt.lay oa) ?_ ?_
  · have:=d.depth;have:=Nat.min_le_right (PyData.depthAll (ds.map Dt.d)) d.d.depth;lia
  · rw [anyEq];exact ⟨_,σ,Ze.refl ..,x,by first | exact rfl | exact ⟨_,rfl⟩,q⟩
theorem eqAt_dt {A:Around} {s:Shared} {a b:Dt} {u1 u2:Value} (oa:a.ok=true) (ob:b.ok=true) (hu:A.units+20<cLine) (r1:Zv s.heap a.v u1) (r2:Zv s.heap b.v u2):SeqAt.EqAt A s u1 u2 (decide (a=b)):=by
  rw [<-Dt.eqv];refine SeqAt.eqAt_reads _ _ A s u1 u2 _ _ (XM r1) (XM r2) (Dt.lay oa) (Dt.lay ob) ?_;have:=a.depth;have:=Nat.min_le_left a.d.depth b.d.depth;lia
noncomputable def YJ (e:Expr):Bool:=!(e.ctorIdx==26)
theorem ZH {e:Expr} {o i:Value} (h:YJ e=true):subscripted e false o i=operate [o,i] (getItem o i):=by
  cases e <;> first | rfl | (exact absurd (show false=true from h) Bool.false_ne_true)
theorem ZX {l r:Expr} {a:Addr} {ms:List V} {i:Int} {v:V} (ha:σ a=some (.list ms)) (h0:0<=i) (hz:i<1000000000) (hx:ms[i.toNat]?=some v) (q:Q v σ) (hr:YJ r=true):Z6 S F n (subscriptTail l r) (.ref a) (.int i) ρ σ Q X:=by
  intro u1 u2 A s hR x r1 r2;obtain rfl:=Zo r1;obtain ⟨t2,rfl⟩:=r2;obtain ⟨us,k,o,rs⟩:=x.g.list ha;obtain ⟨u,hu,ru⟩:=rs.get _ hx;have hl:s.heap.IsList a us.toArray:=⟨_,o,rfl,_,rfl⟩;exact tail_any hl.typeIs slot_list_getitem.lookup (wpAny_getItem_list (x:=u) hl h0 (by lia) (by simpa using hu) ⟨v,σ,Ze.refl ..,x,ru,q⟩) (ZH hr)
theorem V9 {l r:Expr} {a:Addr} {ms:List V} {i:Int} {v:V} (ha:σ a=some (.list ms)) (h0:i<0) (hz:-1000000000<i) (h1:-(ms.length:Int)<=i) (hx:ms[(i+ms.length).toNat]?=some v) (q:Q v σ) (hr:YJ r=true):Z6 S F n (subscriptTail l r) (.ref a) (.int i) ρ σ Q X:=by
  intro u1 u2 A s hR x r1 r2;obtain rfl:=Zo r1;obtain ⟨t2,rfl⟩:=r2;obtain ⟨us,k,o,rs⟩:=x.g.list ha;obtain ⟨u,hu,ru⟩:=rs.get _ hx;have hl:s.heap.IsList a us.toArray:=⟨_,o,rfl,_,rfl⟩;have hlen:=rs.length;exact tail_any hl.typeIs slot_list_getitem.lookup (wpAny_getItem_list_neg (x:=u) hl h0 (by simpa [<-hlen] using h1) (by lia) (by simpa [<-hlen] using hu) ⟨v,σ,Ze.refl ..,x,ru,q⟩) (ZH hr)
theorem KS {l r:Expr} {ms:List V} {i:Int} {v:V} (h0:0<=i) (hz:i<1000000000) (hx:ms[i.toNat]?=some v) (q:Q v σ) (hr:YJ r=true):Z6 S F n (subscriptTail l r) (.tup ms) (.int i) ρ σ Q X:=by
  intro u1 u2 A s hR x r1 r2;simp only [vr0,vr1,vr2,vr3,vr4,vr5,vr6,vr7] at r1 r2;obtain ⟨t2,rfl⟩:=r2;obtain ⟨a,items,rfl,hT,rs⟩:=r1;obtain ⟨u,hu,ru⟩:=rs.get _ hx;have hlt:i.toNat<items.size:=by
    have:=(List.getElem?_eq_some_iff.mp hu).1;simpa using this
  refine tail_any hT.typeIs slot_tuple_getitem.lookup (getItem_tuple (j:=i.toNat) (x:=u) hT (by lia) (by lia) ?_ (by simpa using hu) ⟨v,σ,Ze.refl ..,x,ru,q⟩) (ZH hr);unfold seqIndex?;simp only [if_neg (show ¬ i<0 by lia)];rw [if_pos];simp only [Bool.and_eq_true,decide_eq_true_eq];lia
theorem YG {a:Addr} {ms:List V} (ha:σ a=some (.list ms)) (hz:ms.length<1000000000) (q:Q (.int ms.length) σ):ZN S F n (.builtin "len") [.ref a] ρ σ Q X:=by
  intro us A s hR x r;obtain ⟨u,_,rfl,r1,rfl⟩:=r;obtain rfl:=Zo r1;obtain ⟨us,k,o,rs⟩:=x.g.list ha;have hlen:=rs.length;refine PyProof.Rows.len_list (items:=us.toArray) ⟨_,o,rfl,_,rfl⟩ (by simp;lia) ⟨.int ms.length,σ,Ze.toks ..,x.toks _,?_,q⟩;simp only [vr0,vr1,vr2,vr3,vr4,vr5,vr6,vr7];exact ⟨_,by simp [hlen];rfl⟩
end
set_option tactic.hygienic false
section
variable {K:Type} [DecidableEq K]
noncomputable def Yo (es:List (K×V)) (k:K):Option V:=(es.find? λe=>decide (e.1=k)).map (·.2)
noncomputable def YU (es:List (K×V)) (k:K) (v:V):List (K×V):=if es.any (λe=>decide (e.1=k)) then es.map (λe=>if e.1=k then (e.1,v) else e) else es++[(k,v)]
noncomputable def Ye (h:Heap) (es:List (K×V)) (kvs:List (K×Value)):Prop:=kvs.map Prod.fst=es.map Prod.fst/\Zc h (es.map Prod.snd) (kvs.map Prod.snd)
theorem Ye.nil {h:Heap}:Ye h ([]:List (K×V)) []:=⟨rfl,Zc.nil⟩
theorem Ye.inv {h:Heap} {e:K×V} {es:List (K×V)} {kvs:List (K×Value)} (r:Ye h (e::es) kvs):∃u kvs',kvs=(e.1,u)::kvs'/\Zv h e.2 u/\Ye h es kvs':=by
  obtain ⟨a,b⟩:=r;cases kvs with
  | nil=>simp at a
  | cons kv kvs'=>
    simp only [List.map_cons,List.cons.injEq] at a;simp only [List.map_cons,vs0,vs1] at b;obtain ⟨u,rest,e1,r1,r2⟩:=b;simp only [List.cons.injEq] at e1;obtain ⟨rfl,rfl⟩:=e1;refine ⟨kv.2,kvs',?_,r1,a.2,r2⟩;rw [<-a.1]
theorem Ye.cons {h:Heap} {e:K×V} {es:List (K×V)} {kv:K×Value} {kvs:List (K×Value)} (hk:kv.1=e.1) (a:Zv h e.2 kv.2) (b:Ye h es kvs):Ye h (e::es) (kv::kvs):=
  ⟨by simp [hk,b.1],by simpa using Zc.cons a b.2⟩
theorem Ye.append {h:Heap}:∀{es:List (K×V)} {kvs:List (K×Value)} {es2 kvs2},Ye h es kvs->Ye h es2 kvs2->Ye h (es++es2) (kvs++kvs2)
  | _,_,_,_,⟨a,b⟩,⟨c,d⟩=>⟨by simp [a,c],by simpa using b.append d⟩
theorem Ye.length {h:Heap} {es:List (K×V)} {kvs:List (K×Value)} (r:Ye h es kvs):kvs.length=es.length:=by
  have:=congrArg List.length r.1;simpa using this
theorem Ye.get {h:Heap} {k:K}:∀{es:List (K×V)} {kvs:List (K×Value)},Ye h es kvs->(Yo es k=none->valueAt kvs k=none)/\∀v,Yo es k=some v->∃u,valueAt kvs k=some u/\Zv h v u:=λ{es}=>by
  induction es with
  | nil=>
    intro kvs r;have:kvs=[]:=List.length_eq_zero_iff.mp r.length;subst this;exact ⟨λ_=>rfl,(λv q=>by cases q)⟩
  | cons e es ih=>
    intro kvs r;obtain ⟨u,kvs',rfl,r1,r2⟩:=r.inv;have ih:=ih r2;unfold Yo valueAt at ih ⊢;rw [List.find?_cons,List.find?_cons];by_cases hk:e.1=k
    · rw [decide_eq_true hk];exact ⟨(λq=>by cases q),λv q=>by cases q;exact ⟨u,rfl,r1⟩⟩
    · rw [decide_eq_false hk];exact ih
theorem Ye.any {h:Heap} {k:K}:∀{es:List (K×V)} {kvs:List (K×Value)},Ye h es kvs->kvs.any (λe=>decide (e.1=k))=es.any (λe=>decide (e.1=k)):=λ{es}=>by
  induction es with
  | nil=>
    intro kvs r;have:kvs=[]:=by have:=r.length;simpa using this
    subst this;rfl
  | cons e es ih=>
    intro kvs r;obtain ⟨u,kvs',rfl,r1,r2⟩:=r.inv;simp only [List.any_cons,ih r2]
theorem Ye.mapPut {h:Heap} {k:K} {v:V} {u:Value} (hv:Zv h v u):∀{es:List (K×V)} {kvs:List (K×Value)},Ye h es kvs->Ye h (es.map (λe=>if e.1=k then (e.1,v) else e)) (kvs.map (λe=>if e.1=k then (e.1,u) else e)):=λ{es}=>by
  induction es with
  | nil=>
    intro kvs r;have:kvs=[]:=List.length_eq_zero_iff.mp r.length;subst this;exact .nil
  | cons e es ih=>
    intro kvs r;obtain ⟨u',kvs',rfl,r1,r2⟩:=r.inv;have ih:=ih r2;rw [List.map_cons,List.map_cons];by_cases hk:e.1=k
    · rw [if_pos hk,if_pos hk];exact .cons rfl hv ih
    · rw [if_neg hk,if_neg hk];exact .cons rfl r1 ih
theorem Ye.put {h:Heap} {k:K} {v:V} {u:Value} (hv:Zv h v u) {es:List (K×V)} {kvs:List (K×Value)} (r:Ye h es kvs):Ye h (YU es k v) (stored kvs k u):=by
  unfold YU stored;rw [r.any];(set_option tactic.hygienic true in split)
  · exact r.mapPut hv
  · exact r.append (.cons rfl hv .nil)
theorem Ye.keep {h h':Heap} {es:List (K×V)} {kvs:List (K×Value)} (r:Ye h es kvs) (k:ZJ h h'):Ye h' es kvs:=⟨r.1,r.2.keep k⟩
end
section
variable {S:Sys} {F:Frm} {n:Nat×Nat} {ρ:Rho} {σ:MH} {Q:V->MH->Prop} {X:MH->Prop}
theorem StG.dict {s:Shared} (g:StG S σ s) {a:Addr} {es:List (Key×V)} (h:σ a=some (.dict es)):∃kvs,s.heap.DictOf S.kk a kvs/\Ye s.heap es kvs:=by
  have:=(g.objs _ _ h).2;obtain ⟨kvs,a,b,c⟩:=this;exact ⟨kvs,a,b,c⟩
theorem Xh (ok:SysOk S) {s:Shared} (g:StG S σ s) {a:Addr} {mo:Zd} (h:σ a=some mo):(a==sysModules)=false:=by
  rw [beq_eq_false_iff_ne];rintro rfl;have:=(g.objs _ _ h).1;obtain ⟨o,ho⟩:=ok.mods;rw [this] at ho;cases ho
end
set_option tactic.hygienic false
noncomputable def Yr (xs:List (List Key×Addr×Value)):List (List Key×Value):=xs.map λx=>(x.1,x.2.2)
theorem Kk (xs:List (List Key×Addr×Value)):(Yr xs).map Prod.fst=xs.map Prod.fst:=by simp [Yr]
theorem JB (xs:List (List Key×Addr×Value)) (k:List Key):(atKey xs k).map (·.2)=valueAt (Yr xs) k:=by
  induction xs with
  | nil=>rfl
  | cons x r ih=>
    by_cases h:x.1=k
    · simp [atKey,valueAt,Yr,h]
    · simp only [atKey,valueAt,Yr,List.find?_cons,List.map_cons,h,decide_false] at ih ⊢;exact ih
theorem WK (xs:List (List Key×Addr×Value)) (k:List Key) (a:Addr) (v:Value):Yr (storedH xs k a v)=stored (Yr xs) k v:=by
  have e:(atKey xs k).isSome=(Yr xs).any (λkv=>decide (kv.1=k)):=by
    induction xs with
    | nil=>rfl
    | cons x r ih=>
      by_cases h:x.1=k
      · simp [atKey,Yr,h]
      · simp only [atKey,Yr,List.find?_cons,List.map_cons,List.any_cons,h,decide_false,Bool.false_or] at ih ⊢;exact ih
  unfold storedH stored;rw [e];(set_option tactic.hygienic true in split)
  · simp only [Yr,List.map_map];apply List.map_congr_left;intro x _;simp only [Function.comp,putAt];(set_option tactic.hygienic true in split) <;> simp_all
  · simp [Yr]
section
variable {S:Sys} {F:Frm} {n:Nat×Nat} {ρ:Rho} {σ:MH} {Q:V->MH->Prop} {X:MH->Prop}
theorem StG.tdict {s:Shared} (g:StG S σ s) {a:Addr} {es:List (List Key×V)} (h:σ a=some (.tdict es)):∃xs,s.heap.DictOfH S.tk a xs/\Ye s.heap es (Yr xs):=by
  have:=(g.objs _ _ h).2;obtain ⟨xs,a,b,c⟩:=this;exact ⟨xs,a,by rw [Kk];exact b,by simpa [Yr,Function.comp_def] using c⟩
theorem KO {h:Heap} {ks:List Key} {u:Value} (r:Zv h (.tup (ks.map V.ofKey)) u):∃a,u=.ref a/\S.tk.is h ks a:=by
  obtain ⟨x,items,rfl,⟨o,ho,hc,n,hd⟩,rs⟩:=r;refine ⟨x,rfl,o,items,n,ho,hc,hd,?_⟩;have go:∀(ks:List Key) (us:List Value),Zc h (ks.map V.ofKey) us->ItemsAre S.kk ks us:=by
    intro ks;induction ks with
    | nil=>intro us r;simp only [List.map_nil,vs0,vs1] at r;subst r;exact .nil
    | cons k r ih=>
      intro us rs;simp only [List.map_cons,vs0,vs1] at rs;obtain ⟨u,us',rfl,a,b⟩:=rs;exact .cons (Yl a) (ih us' b)
  exact go ks _ rs
theorem Yc {l r:Expr} {a:Addr} {es:List (Key×V)} {k:Key} {v mk:V} (hk:mk=V.ofKey k) (ha:σ a=some (.dict es)) (hx:Yo es k=some v) (q:Q v σ) (hr:YJ r=true):Z6 S F n (subscriptTail l r) (.ref a) mk ρ σ Q X:=by
  subst hk;intro u1 u2 A s hR x r1 r2;obtain rfl:=Zo r1;obtain ⟨kvs,hd,pr⟩:=x.g.dict ha;obtain ⟨u,hu,ru⟩:=(pr.get (k:=k)).2 v hx;exact tail_any hd.typeIs slot_dict_getitem.lookup (wpAny_getItem_of (knd:=S.kk) (Yl r2) hd.mapOf hu ⟨v,σ,Ze.toks ..,x.toks _,ru,q⟩) (ZH hr)
theorem p_itemTD {l r:Expr} {a:Addr} {es:List (List Key×V)} {k:List Key} {v mk:V} (hk:mk=.tup (k.map V.ofKey)) (ha:σ a=some (.tdict es)) (hx:Yo es k=some v) (q:Q v σ) (hr:YJ r=true):Z6 S F n (subscriptTail l r) (.ref a) mk ρ σ Q X:=by
  subst hk;intro u1 u2 A s hR x r1 r2;have hu:=Yd hR;obtain rfl:=Zo r1;obtain ⟨kvs,hd,pr⟩:=x.g.tdict ha;obtain ⟨u,hu',ru⟩:=(pr.get (k:=k)).2 v hx;obtain ⟨t,rfl,ht⟩:=KO (S:=S) r2;rw [<-JB] at hu';obtain ⟨p,hp,hp2⟩:=Option.map_eq_some_iff.mp hu';subst hp2;exact tail_any hd.typeIs slot_dict_getitem.lookup (wpAny_getItem_heap (knd:=S.tk) (by show A.in1.units<cLine;show A.units+1<cLine;lia) ht hd hp ⟨v,σ,Ze.toks ..,x.toks _,ru,q⟩) (ZH hr)
theorem p_inD (ok:SysOk S) {a:Addr} {es:List (Key×V)} {k:Key} {mk:V} (hk:mk=V.ofKey k) (ha:σ a=some (.dict es)) (q:Q (.bool (Yo es k).isSome) σ):Z6 S F n (compareOp .In) mk (.ref a) ρ σ Q X:=by
  subst hk;intro u1 u2 A s hR x r1 r2;obtain rfl:=Zo r2;obtain ⟨kvs,hd,pr⟩:=x.g.dict ha;refine wpAny_in_of (knd:=S.kk) (Yl r1) (Xh ok x.g ha) hd.mapOf ⟨.bool (Yo es k).isSome,σ,Ze.toks ..,x.toks _,?_,q⟩;have:=pr.get (k:=k);cases e:Yo es k with
  | none=>simp [vr0,vr1,vr2,vr3,vr4,vr5,vr6,vr7,this.1 e]
  | some v=>obtain ⟨u,hu,_⟩:=this.2 v e;simp [vr0,vr1,vr2,vr3,vr4,vr5,vr6,vr7,hu]
theorem p_notinD (ok:SysOk S) {a:Addr} {es:List (Key×V)} {k:Key} {mk:V} (hk:mk=V.ofKey k) (ha:σ a=some (.dict es)) (q:Q (.bool (!(Yo es k).isSome)) σ):Z6 S F n (compareOp .NotIn) mk (.ref a) ρ σ Q X:=by
  subst hk;intro u1 u2 A s hR x r1 r2;obtain rfl:=Zo r2;obtain ⟨kvs,hd,pr⟩:=x.g.dict ha;refine wpAny_notIn_of (knd:=S.kk) (Yl r1) (Xh ok x.g ha) hd.mapOf ⟨.bool (!(Yo es k).isSome),σ,Ze.toks ..,x.toks _,?_,q⟩;have:=pr.get (k:=k);cases e:Yo es k with
  | none=>simp [vr0,vr1,vr2,vr3,vr4,vr5,vr6,vr7,this.1 e]
  | some v=>obtain ⟨u,hu,_⟩:=this.2 v e;simp [vr0,vr1,vr2,vr3,vr4,vr5,vr6,vr7,hu]
theorem p_inTD (ok:SysOk S) {a:Addr} {es:List (List Key×V)} {k:List Key} {mk:V} (hk:mk=.tup (k.map V.ofKey)) (ha:σ a=some (.tdict es)) (q:Q (.bool (Yo es k).isSome) σ):Z6 S F n (compareOp .In) mk (.ref a) ρ σ Q X:=by
  subst hk;intro u1 u2 A s hR x r1 r2;have hu:=Yd hR;obtain rfl:=Zo r2;obtain ⟨kvs,hd,pr⟩:=x.g.tdict ha;obtain ⟨t,rfl,ht⟩:=KO (S:=S) r1;refine wpAny_in_heap (knd:=S.tk) (by show A.in1.units<cLine;show A.units+1<cLine;lia) ht (Xh ok x.g ha) hd ⟨.bool (Yo es k).isSome,σ,Ze.toks ..,x.toks _,?_,q⟩;have:=pr.get (k:=k);rw [<-JB] at this;cases e:Yo es k with
  | none=>have h2:=this.1 e;simp only [Option.map_eq_none_iff] at h2;simp [vr0,vr1,vr2,vr3,vr4,vr5,vr6,vr7,h2]
  | some v=>obtain ⟨u,hu,_⟩:=this.2 v e;obtain ⟨p,hp,_⟩:=Option.map_eq_some_iff.mp hu;simp [vr0,vr1,vr2,vr3,vr4,vr5,vr6,vr7,hp]
noncomputable def WSet (S:Sys) (F:Frm) (n:Nat×Nat) (mo mi mv:V) (ρ:Rho) (σ:MH) (Q:MH->Prop) (X:MH->Prop):Prop:=
  ∀uo ui uv A s,Yz F n A->St S F ρ σ s->Zv s.heap mo uo->Zv s.heap mi ui->Zv s.heap mv uv->wpAny S.M A (setItem uo ui uv) (λ_ s'=>∃σ',Ze ZI σ s σ' s'/\St S F ρ σ' s'/\Q σ') (EX S F X) s
theorem WN {Q:MF->Rho->MH->Prop} {o i value:Expr} {pos' pos:Pos}
    (h:WE S F n (eval value F.env) ρ σ (λmv σ1=>WE S F n (eval o F.env) ρ σ1 (λmo σ2=>WE S F n (eval i F.env) ρ σ2 (λmi σ3=>WSet S F n mo mi mv ρ σ3 (λσ4=>Q .next ρ σ4) X) X) X) X)
    (hs:swapsWith value (some (.Subscript o i pos')) pos.line F.env=pure false):WS S F n (exec (.Assign [.Subscript o i pos'] value pos) F.env) ρ σ Q X:=by
  intro A s hR x;refine wpAny_Assign_Subscript (wpAny_mono (h A s hR x) ?_ λ_ _ z=>z) hs;rintro uv s1 ⟨mv,σ1,y1,x1,r1,q1⟩;refine wpAny_mono (q1 A s1 hR x1) ?_ λ_ _ z=>z;rintro uo s2 ⟨mo,σ2,y2,x2,r2,q2⟩;refine wpAny_mono (q2 A s2 hR x2) ?_ λ_ _ z=>z;rintro ui s3 ⟨mi,σ3,y3,x3,r3,q3⟩;refine wpAny_mono (q3 uo ui uv A s3 hR x3 (r2.over x2 y3) r3 (r1.over x1 (y2.trans y3))) ?_ λ_ _ z=>z;rintro _ s4 ⟨σ4,y4,x4,q4⟩;exact ⟨.next,ρ,σ4,(y1.trans (y2.trans (y3.trans y4))).from_no,x4,rfl,q4⟩
theorem X8 {QM:MH->Prop} {a:Addr} {es:List (Key×V)} {k:Key} {mk v:V} (hk:mk=V.ofKey k) (ha:σ a=some (.dict es)) (hz:es.length<=1000000) (q:QM (σ.set a (.dict (YU es k v)))):WSet S F n (.ref a) mk v ρ σ QM X:=by
  subst hk;intro uo ui uv A s hR x ro ri rv;obtain rfl:=Zo ro;obtain ⟨kvs,hd,pr⟩:=x.g.dict ha;have hl:=pr.length;have hz':kvs.length<=sizeLine:=Nat.le_trans (by lia:kvs.length<=1000000) (by decide);unfold setItem;try with_reducible refine wpAny_holding ?_
  refine wpAny_bind (wpAny_sequenceKey hd.typeIs (by decide) ?_);refine wpAny_bind (wpAny_callSpecial?_slot (name:=Str.ofString "__setitem__") hd.typeIs PySem.F.slot_dict_setitem
    (call_meetsIn PySem.F.slot_dict_setitem hd.typeIs PySem.F.entry_dict_setitem (PySem.F.args_dict_setitem_3 _ _ _) (meets_dict_setitem_pairs S.kk a (Yl ri) uv) ⟨kvs,hd,hz',λh' hm hs=>?_⟩))
  obtain ⟨y1,x1⟩:=x.upd ha (s.toks+1) hs (mo':=.dict (YU es k v)) λvk=>by
    simp only [or0,or1,or2,or3,or4];have:=(pr.keep vk).put (k:=k) (rv.keep vk);exact ⟨_,hm,this.1,this.2⟩
  exact wpAny_pure ⟨_,y1,x1,q⟩
theorem p_setTD {QM:MH->Prop} {a:Addr} {es:List (List Key×V)} {k:List Key} {mk v:V} (hk:mk=.tup (k.map V.ofKey)) (ha:σ a=some (.tdict es)) (hz:es.length<=1000000) (q:QM (σ.set a (.tdict (YU es k v)))):WSet S F n (.ref a) mk v ρ σ QM X:=by
  subst hk;intro uo ui uv A s hR x ro ri rv;have hu:=Yd hR;obtain rfl:=Zo ro;obtain ⟨xs,hd,pr⟩:=x.g.tdict ha;obtain ⟨t,rfl,ht⟩:=KO (S:=S) ri;have hl:=pr.length;have e2:xs.length=es.length:=by rw [<-hl];simp [Yr]
  have hz':xs.length<=sizeLine:=Nat.le_trans (by rw [e2];exact hz) (by decide:1000000<=sizeLine);refine wpAny_setItem_heap (knd:=S.tk) (by show A.in1.units<cLine;show A.units+1<cLine;lia) ht hd (λh' hm hs=>?_) hz';obtain ⟨y1,x1⟩:=x.upd ha (s.toks+S.tk.draws k) hs (mo':=.tdict (YU es k v)) λvk=>by
    simp only [or0,or1,or2,or3,or4];have:=(pr.keep vk).put (k:=k) (rv.keep vk);rw [<-WK xs k t uv] at this;exact ⟨_,hm,by rw [<-Kk];exact this.1,by simpa [Yr,Function.comp_def] using this.2⟩
  exact ⟨_,y1,x1,q⟩
end
set_option tactic.hygienic false
theorem srt_empty:Srt #[]:=λi j _ hj=>absurd hj (by simp)
theorem srt_range (n:Nat):Srt (Array.range n):=λi j h hj hi=>by simpa using h
theorem KR {xs:Array Nat} {i d:Nat} (h:i<xs.size):xs.getD i d=xs[i]:=by simp [Array.getD,h]
theorem mid_of {lo hi:Nat} (h:lo<hi):lo<=(lo+hi) / 2/\(lo+hi) / 2<hi:=
  ⟨(Nat.le_div_iff_mul_le (Nat.succ_pos 1)).mpr (Nat.mul_two lo▸Nat.add_le_add_left (Nat.le_of_lt h) lo),(Nat.div_lt_iff_lt_mul (Nat.succ_pos 1)).mpr (Nat.mul_two hi▸Nat.add_lt_add_right h hi)⟩
theorem mid_sub {lo hi m fuel:Nat} (h:hi-lo<=fuel+1) (a:lo<=m) (b:m<hi):hi-(m+1)<=fuel/\m-lo<=fuel:=
  ⟨Nat.le_trans (Nat.sub_le_sub_left (Nat.succ_le_succ a) hi) (Nat.pred_le_pred h),Nat.le_of_lt_succ (Nat.lt_of_lt_of_le (Nat.sub_lt_sub_right a b) h)⟩
theorem below_go {xs:Array Nat} {j:Nat} (hs:Srt xs):∀(fuel lo hi:Nat),hi-lo<=fuel->lo<=hi->hi<=xs.size->(∀i (h:i<xs.size),i<lo->xs[i]<j)->(∀i (h:i<xs.size),hi<=i->j<=xs[i])->
    (SetTable.below.go xs j fuel lo hi<=xs.size/\(∀i (h:i<xs.size),i<SetTable.below.go xs j fuel lo hi->xs[i]<j)/\∀i (h:i<xs.size),SetTable.below.go xs j fuel lo hi<=i->j<=xs[i]):=λfuel=>by
  induction fuel with
  | zero=>
    intro lo hi hf hl hh h1 h2;have:lo=hi:=Nat.le_antisymm hl (Nat.le_of_sub_eq_zero (Nat.le_zero.mp hf));subst this;exact ⟨hh,h1,h2⟩
  | succ fuel ih=>
    intro lo hi hf hl hh h1 h2;rw [show SetTable.below.go xs j (fuel+1) lo hi=if lo<hi then (if xs.getD ((lo+hi) / 2) j<j then SetTable.below.go xs j fuel ((lo+hi) / 2+1) hi else SetTable.below.go xs j fuel lo ((lo+hi) / 2)) else lo from rfl];by_cases hlt:lo<hi
    · rw [if_pos hlt];obtain ⟨m1,m2⟩:=mid_of hlt;generalize (lo+hi) / 2=m at m1 m2;have hm:m<xs.size:=Nat.lt_of_lt_of_le m2 hh;obtain ⟨s1,s2⟩:=mid_sub hf m1 m2;rw [KR hm];by_cases hc:xs[m]<j
      · rw [if_pos hc];refine ih _ hi s1 m2 hh (λi h hi'=>?_) h2;by_cases e:i=m
        · subst e;exact hc
        · exact Nat.lt_trans (hs i _ (Nat.lt_of_le_of_ne (Nat.le_of_lt_succ hi') e) hm h) hc
      · rw [if_neg hc];refine ih lo _ s2 m1 (Nat.le_of_lt hm) h1 (λi h hi'=>?_);by_cases e:i=m
        · subst e;exact Nat.le_of_not_lt hc
        · exact Nat.le_trans (Nat.le_of_not_lt hc) (Nat.le_of_lt (hs _ i (Nat.lt_of_le_of_ne hi' (Ne.symm e)) h hm))
    · rw [if_neg hlt];have:lo=hi:=Nat.le_antisymm hl (Nat.le_of_not_lt hlt);subst this;exact ⟨hh,h1,h2⟩
theorem Vw {xs:Array Nat} (j:Nat) (hs:Srt xs):SetTable.below xs j<=xs.size/\(∀i (h:i<xs.size),i<SetTable.below xs j->xs[i]<j)/\∀i (h:i<xs.size),SetTable.below xs j<=i->j<=xs[i]:=by
  unfold SetTable.below;exact below_go hs _ 0 _ (by lia) (by lia) (by lia) (λi h hi=>by lia) (λi h hi=>by lia)
theorem WM {xs:Array Nat} {j k:Nat} (hs:Srt xs) (hk:k<=xs.size) (h1:∀i (h:i<xs.size),i<k->xs[i]<j) (h2:∀i (h:i<xs.size),k<=i->j<=xs[i]):SetTable.below xs j=k:=by
  obtain ⟨a,b,c⟩:=Vw j hs;rcases Nat.lt_trichotomy (SetTable.below xs j) k with h | h | h
  · have:=h1 _ (by lia) h;have:=c _ (by lia) (Nat.le_refl _);lia
  · exact h
  · have:=b k (by lia) h;have:=h2 k (by lia) (Nat.le_refl _);lia
theorem QE {xs:Array Nat} (h:xs.toList.Pairwise (· < ·)):Srt xs:=λi j hij hj hi=>List.pairwise_iff_getElem.mp h i j hi hj hij
theorem Qc {xs:Array Nat} (h:Srt xs):xs.toList.Pairwise (· < ·):=List.pairwise_iff_getElem.mpr λi j hi hj hij=>h i j hij hj hi
theorem Uq {xs:Array Nat} {j:Nat} (hs:Srt xs) (hn:xs[SetTable.below xs j]?≠some j):Srt (SetTable.insertAt xs (SetTable.below xs j) j):=by
  obtain ⟨a,b,c⟩:=Vw j hs;generalize SetTable.below xs j=p at a b c hn;have hp:=Qc hs;have up:∀y∈xs.toList.drop p,j<y:=λy hy=>by
    obtain ⟨i,hi,e⟩:=List.mem_iff_getElem.mp hy;rw [List.length_drop] at hi;have hpi:p+i<xs.size:=Nat.add_lt_of_lt_sub' hi;rw [List.getElem_drop] at e;have e:xs[p+i]=y:=e;have h1:=c (p+i) hpi (Nat.le_add_right ..);rw [e] at h1;refine Nat.lt_of_le_of_ne h1 λq=>?_;cases i with
    | zero=>exact hn (by show xs[p+0]?=some j;rw [Array.getElem?_eq_getElem hpi,q];exact congrArg some e)
    | succ i=>
      have hpp:p<xs.size:=Nat.lt_of_le_of_lt (Nat.le_add_right ..) hpi;have h2:=hs p (p+(i+1)) (Nat.lt_add_of_pos_right (Nat.succ_pos i)) hpi hpp;rw [e,<-q] at h2;exact absurd (c p hpp (Nat.le_refl _)) (Nat.not_le_of_lt h2)
  refine QE ?_;rw [SetTable.toList_insertAt];refine List.pairwise_append.mpr ⟨hp.sublist (List.take_sublist ..),List.pairwise_cons.mpr ⟨up,hp.sublist (List.drop_sublist ..)⟩,λx hx y hy=>?_⟩;obtain ⟨i,hi,e⟩:=List.mem_iff_getElem.mp hx;rw [List.length_take] at hi;rw [List.getElem_take] at e;have hx:x<j:=by rw [<-e];exact b i (Nat.lt_of_lt_of_le hi (Nat.min_le_right ..)) (Nat.lt_of_lt_of_le hi (Nat.min_le_left ..))
  rcases List.mem_cons.mp hy with q | q
  · rw [q];exact hx
  · exact Nat.lt_trans hx (up y q)
theorem U7 (j:Nat):SetTable.has #[] j=false:=rfl
set_option smartUnfolding false in
theorem UK (t:SetTable) (hashAt:Nat->Int) (h:Int) (fuel:Nat) (p:SetTable.Probe):SetTable.probe.go t hashAt h (fuel+1) p=SetTable.Slot.casesOn (motive:=λ_=>Option SetTable.Met) (t.slot p.j) (some (.empty p.j p.dummy)) (SetTable.probe.go t hashAt h fuel (t.advance { p with dummy:=some p.j }))
      (λi=>if hashAt i==h then some (.candidate p.j i (t.advance p)) else SetTable.probe.go t hashAt h fuel (t.advance p)):=rfl
theorem probe_go {t:SetTable} {hashAt:Nat->Int} {h:Int} (ok:TOk t) (hh:∀i,hashAt i≠h):∀(fuel:Nat) (p:SetTable.Probe) (j:Nat) (d:Option Nat),p.dummy=none->SetTable.probe.go t hashAt h fuel p=some (.empty j d)->d=none/\t.slot j=.empty:=λfuel=>by
  induction fuel with
  | zero=>intro p j d hp e;exact nomatch (show none=some (SetTable.Met.empty j d) from e)
  | succ fuel ih=>
    intro p j d hp e;have adv:(t.advance p).dummy=none:=by
      unfold SetTable.advance;by_cases q:p.more>0
      · rw [if_pos q];exact hp
      · rw [if_neg q];exact hp
    rw [UK] at e;cases hs:t.slot p.j with
    | empty=>
      rw [hs] at e;injection e with e
      injection e with e1 e2
      exact ⟨e2.symm.trans hp,e1▸hs⟩
    | dummy=>
      exfalso;unfold SetTable.slot at hs;dsimp only at hs;by_cases c:(t.place[SetTable.below t.place p.j]?==some p.j)=true
      · rw [if_pos c] at hs;cases hs
      · rw [if_neg c,ok.dum,U7] at hs;cases hs
    | live i=>
      rw [hs] at e;dsimp only at e;have hne:¬ (hashAt i==h)=true:=by simpa using hh i
      rw [if_neg hne] at e;exact ih _ j d adv e
theorem VZ {t:SetTable} {h:Int} (ok:TOk t) {j:Nat} {b:Bool} (e:t.freeSlot h=some (j,b)):b=false/\t.place[SetTable.below t.place j]?≠some j:=by
  unfold SetTable.freeSlot at e;cases hm:t.probe (λ_=>h+1) h (t.probeStart h) with
  | none=>rw [hm] at e;cases e
  | some m=>
    rw [hm] at e;cases m with
    | candidate j' i nx=>cases e
    | empty j' d=>
      obtain ⟨hd,hs⟩:=probe_go ok (λi=>by lia) _ _ _ _ rfl hm;subst hd;injection e with e
      injection e with e1 e2
      subst e1;subst e2;refine ⟨rfl,λq=>?_⟩;have q:t.place[SetTable.below t.place j']?=some j':=q;unfold SetTable.slot at hs;dsimp only at hs;rw [if_pos (by rw [q];exact beq_self_eq_true _)] at hs;cases hs
theorem XT (t:SetTable) (n:Nat):TOk (t.standIn n):=⟨srt_range n,rfl⟩
theorem put_ok {t:SetTable} {j:Nat} (ok:TOk t) (h:t.place[SetTable.below t.place j]?≠some j):TOk (t.put j).1:=by
  unfold SetTable.put;refine ⟨Uq ok.srt h,?_⟩;dsimp only;rw [ok.dum,U7];rfl
theorem W5 {t:SetTable} (n:Nat) (ok:TOk t):TOk (t.orStandIn n):=by
  unfold SetTable.orStandIn;by_cases q:t.fits n=true
  · rw [if_pos q];exact ok
  · rw [if_neg q];exact XT t n
theorem VY (t:SetTable) (n:Nat):(t.orStandIn n).led=t.led:=by
  unfold SetTable.orStandIn;by_cases q:t.fits n=true
  · rw [if_pos q]
  · rw [if_neg q];rfl
theorem layNew_ok {t:SetTable} {es:Array (Int×Value)} {h:Int} {x:Value} (ok:TOk t):TOk (layNew t es h x).2.1/\(layNew t es h x).2.1.led=t.led:=by
  unfold layNew;cases e:t.freeSlot h with
  | none=>exact ⟨XT _ _,rfl⟩
  | some p=>
    obtain ⟨j,b⟩:=p;exact ⟨W5 _ (put_ok ok (VZ ok e).2),VY _ _⟩
theorem KI {l:List Nat} (h:l.Pairwise (· < ·)):Srt l.toArray:=by
  intro i j hij hj hi;have:=List.pairwise_iff_getElem.mp h i j (by simpa using hi) (by simpa using hj) hij;simpa using this
theorem QO {t:SetTable} {es:Array (Int×Value)} {n:Nat} (ok:TOk t):TOk (relayAll t es n).2.1/\(relayAll t es n).2.1.led=t.led:=by
  unfold relayAll;cases e:t.relaid (es.map (·.1)) n with
  | none=>exact ⟨XT _ _,rfl⟩
  | some p=>
    obtain ⟨t',order⟩:=p;dsimp only;by_cases c:(coversAll order es.size&&t'.fits (order.filterMap (es[·]?)).size)=true
    · rw [if_pos c];unfold SetTable.relaid SetTable.laid at e;simp only [Option.bind_eq_bind,Option.pure_def,Option.bind_eq_some_iff,Option.some.injEq,Prod.mk.injEq] at e;obtain ⟨owner,_,rfl,_⟩:=e;refine ⟨⟨KI ?_,rfl⟩,rfl⟩;have e2:((List.range (SetTable.sizeAbove n-1+1)).filterMap λj=>(owner.getD j none).map (j,·)).map (·.1)=(List.range (SetTable.sizeAbove n-1+1)).filter λj=>(owner.getD j none).isSome:=by
        induction List.range (SetTable.sizeAbove n-1+1) with
        | nil=>rfl
        | cons a r ih=>
          rw [List.filterMap_cons,List.filter_cons];cases hq:owner.getD a none with
          | none=>simpa using ih
          | some v=>simpa using ih
      rw [e2];exact List.Pairwise.filter _ List.pairwise_lt_range
    · rw [if_neg c];exact ⟨XT _ _,rfl⟩
noncomputable def WZ (place:Array Nat):Nat->Nat
  | 0=>0
  | i+1=>place.getD i 0+1
theorem Ut {place:Array Nat} (hs:Srt place) {i:Nat} (hi:i<=place.size):SetTable.below place (WZ place i)=i:=by
  refine WM hs hi (λk h hk=>?_) (λk h hk=>?_)
  · cases i with
    | zero=>lia
    | succ i=>
      have hi':i<place.size:=by lia
      show place[k]<place.getD i 0+1;rw [KR hi'];by_cases e:k=i
      · subst e;lia
      · have:=hs k i (by lia) hi' h;lia
  · cases i with
    | zero=>exact Nat.zero_le _
    | succ i=>
      have hi':i<place.size:=by lia
      show place.getD i 0+1<=place[k];rw [KR hi'];have:=hs i k (by lia) h hi';lia
set_option smartUnfolding false in
theorem pick_step {α:Type} {next:Nat->Nat} (fuel k:Nat) (left:List α) (out:Array α):pickOrder.go next (fuel+1) k left out=(left[next k % left.length]?).elim out λx=>pickOrder.go next fuel (k+1) (left.eraseIdx (next k % left.length)) (out.push x):=rfl
theorem pick_go {α:Type} {next:Nat->Nat}:∀(fuel k:Nat) (left:List α) (out:Array α),left.length=fuel->List.Perm (pickOrder.go next fuel k left out).toList (out.toList++left):=λfuel=>by
  induction fuel with
  | zero=>
    intro k left out h;have:left=[]:=List.eq_nil_of_length_eq_zero h;subst this;rw [List.append_nil];exact List.Perm.refl _
  | succ fuel ih=>
    intro k left out h;rw [pick_step];have hlt:next k % left.length<left.length:=Nat.mod_lt _ (by lia);rw [List.getElem?_eq_getElem hlt];refine (ih (k+1) _ _ (by rw [List.length_eraseIdx_of_lt hlt];lia)).trans ?_;rw [Array.toList_push,List.append_assoc];refine List.Perm.append_left _ ?_;have e1:left=left.take (next k % left.length)++left[next k % left.length]::left.drop (next k % left.length+1):=by simp
    have e2:left.eraseIdx (next k % left.length)=left.take (next k % left.length)++left.drop (next k % left.length+1):=List.eraseIdx_eq_take_drop_succ ..;rw [e2];refine List.Perm.trans ?_ (List.Perm.of_eq e1.symm);rw [List.singleton_append];exact List.perm_middle.symm
theorem pick_perm {α:Type} (next:Nat->Nat) (xs:Array α):List.Perm (pickOrder next xs).toList xs.toList:=by
  unfold pickOrder;simpa using pick_go xs.size 0 xs.toList #[] (by simp)
set_option tactic.hygienic false
theorem XZ {es es':Array (Int×Value)} (p:List.Perm es.toList es'.toList):List.Perm (Yk es) (Yk es'):=p.map _
theorem KY:∀{l m:List Int},l.Nodup->(∀x∈l,x∈m)->l.length<=m.length
  | [],m,_,_=>Nat.zero_le _
  | a::l,m,hn,hs=>by
    rw [List.nodup_cons] at hn;have ha:=hs a List.mem_cons_self;have:=KY (m:=m.erase a) hn.2 λx hx=>(List.mem_erase_of_ne (by intro e;subst e;exact hn.1 hx)).mpr (hs x (List.mem_cons_of_mem _ hx));rw [List.length_erase_of_mem ha] at this;have:=List.length_pos_of_mem ha;simp only [List.length_cons];lia
section
variable {prog:Program} {w:World} {A:Around} {E:Value->Shared->Prop} {s:Shared}
theorem Ky {k:Int} {v:Value} (h:Value.isInt k v=true):JV v=k:=by
  obtain ⟨t,rfl⟩:=Value.isInt_shape h;rfl
theorem QC {l:List (Int×Value)} (h:ElemsOf (intKind prog w) l) {e:Int×Value} (he:e∈l):(intKind prog w).is (JV e.2) e.2=true:=by
  obtain ⟨⟨k,hk,_⟩,_⟩:=h e he;have:=Ky (k:=k) (v:=e.2) hk;rw [this];exact hk
theorem Vg {g:Bool->Sem Unit} (hg:∀(b:Bool) (s₁:Shared) (Q':Unit->Shared->Prop),Q' () s₁->wpAny (model prog w) A (g b) Q' E s₁)
    {a:Addr} {es:Array (Int×Value)} {ep:Nat} {t:SetTable} (ho:s.heap.get? a=some { cls:=.type "set",dict:=none,data:=.set es ep t })
    {es1:Array (Int×Value)} {t2:SetTable} {is:List Int} (hel1:ElemsOf (intKind prog w) es1.toList) (hn1:(Yk es1).Nodup) (hmem1:∀k',k'∈is ↔ k'∈Yk es1)
    (hb1:es1.size<scanBound) (hf2:t2.fits es1.size=true) (ok2:TOk t2) (hl2:t2.led=!Yw w) {wasDummy:Bool} {R:Option Bool->Shared->Prop}
    (h:∀h',Heap.SameBut a s.heap h'->Y1 prog w h' a is->R (some true) { s with heap:=h' }) :
    wpAny (model prog w) A (do
        storeSet a es1 t2
        if (!wasDummy&&t2.tooFull)=true then do
            g (relayAll t2 es1 (SetTable.grown es1.size)).2.2
            storeSet a (relayAll t2 es1 (SetTable.grown es1.size)).1 (relayAll t2 es1 (SetTable.grown es1.size)).2.1
            pure (some true)
          else pure (some true)) R E s:=by
  refine wpAny_bind (wpAny_storeSet_of ho rfl ?_ (fits_of_scanBound hb1));have g1:(s.heap.update a (Obj.putSet es1 t2)).get? a=some { cls:=.type "set",dict:=none,data:=.set es1 (ep+1) t2 }:=by
    have:=Heap.get?_update_self (Obj.putSet es1 t2) ho (by rw [putSet_of es1 t2 rfl];rfl);rw [putSet_of es1 t2 rfl] at this;exact this
  have hsb1:=Heap.SameBut.update s.heap a (Obj.putSet es1 t2);(set_option tactic.hygienic true in split)
  · have hp:=relayAll_perm t2 es1 (SetTable.grown es1.size);have hfr:=relayAll_fits t2 es1 (SetTable.grown es1.size);obtain ⟨ok3,hl3⟩:=QO (es:=es1) (n:=SetTable.grown es1.size) ok2;generalize hRl:relayAll t2 es1 (SetTable.grown es1.size)=Rl at hp hfr ok3 hl3 ⊢;obtain ⟨es2,t3,gave2⟩:=Rl;dsimp only at hp hfr ok3 hl3 ⊢;have hel2:ElemsOf (intKind prog w) es2.toList:=hel1.perm hp;have hsz:es2.size=es1.size:=by rw [<-Array.length_toList,hp.length_eq,Array.length_toList]
    have hb2:es2.size<scanBound:=by rw [hsz];exact hb1
    refine wpAny_bind (hg _ _ _ ?_);refine wpAny_bind (wpAny_storeSet_of g1 rfl ?_ (fits_of_scanBound hb2));have g2:=Heap.get?_update_self (Obj.putSet es2 t3) g1 (by rw [putSet_of es2 t3 rfl];rfl);rw [putSet_of es2 t3 rfl] at g2;exact wpAny_pure (h _ (hsb1.trans (Heap.SameBut.update _ a _)) ⟨es2,_,t3,g2,hel2,(XZ hp).nodup_iff.mpr hn1,λk=>(hmem1 k).trans (XZ hp).mem_iff.symm,hb2,hfr,ok3,by rw [hl3,hl2]⟩)
  · exact wpAny_pure (h _ hsb1 ⟨es1,_,t2,g1,hel1,hn1,hmem1,hb1,hf2,ok2,hl2⟩)
theorem WL {a:Addr} {is:List Int} {k:Int} {tk:Tok} {Q:Bool->Shared->Prop} (hS:Y1 prog w s.heap a is) (hroom:is.length+1<scanBound)
    (h:∀h' b,Heap.SameBut a s.heap h'->Y1 prog w h' a (is++[k])->Q b { s with heap:=h' }) :
    wpAny (model prog w) A (setAddHashed a (.int k tk) ((intKind prog w).hash k)) Q E s:=by
  obtain ⟨es,ep,t,ho,hel,hnd,hmem,hb,hf,ok,hled⟩:=hS;have hkey:(intKind prog w).is k (.int k tk)=true:=intKind_is _ _ _ _;have hszle:es.size<=is.length:=by
    have h1:(Yk es).length=es.size:=by simp [Yk]
    rw [<-h1];exact KY hnd λx hx=>(hmem x).mpr hx
  have hb1:es.size+1<scanBound:=by lia
  unfold setAddHashed setAddHashedIn;refine wpAny_holding (wpAny_bind (wpAny_setState_of ho rfl hf ?_));dsimp only;rw [byScan_of (knd:=intKind prog w) rfl hb hel];refine wpAny_ite_true rfl ?_;unfold setAddByScan;refine wpAny_bind ?_;refine wpAny_bind (wpAny_rule ?_);refine wpAny_bind (wpAny_setScan_of hkey ho rfl hf hel ?_);cases hr:List.findIdx? (λe=>(intKind prog w).is k e.2) es.toList with
  | some j=>
    dsimp only;obtain ⟨hj,hpj,_⟩:=List.findIdx?_eq_some_iff_getElem.mp hr;have hk:k∈Yk es:=List.mem_map.mpr ⟨es.toList[j],List.getElem_mem hj,Ky hpj⟩;refine wpAny_pure (wpAny_pure ?_);have e:s={ s with heap:=s.heap }:=by cases s;rfl
    have:=h s.heap false (Heap.SameBut.refl a s.heap) ⟨es,ep,t,ho,hel,hnd,λk'=>by
      rw [List.mem_append,List.mem_singleton,<-hmem k'];exact ⟨λq=>q.elim id λq=>q▸(hmem k).mpr hk,.inl⟩,hb,hf,ok,hled⟩
    rw [e];exact this
  | none=>
    dsimp only;have hk:k∉Yk es:=by
      intro q;obtain ⟨e,he,hke⟩:=List.mem_map.mp q;have:=List.findIdx?_eq_none_iff.mp hr e he;have h2:=QC hel he;rw [hke] at h2;rw [h2] at this;cases this
    have hgw:∀(b:Bool) {s₁:Shared} {Q':Unit->Shared->Prop},Q' () s₁->wpAny (model prog w) A (match b with | true=>rule "set.scan.the-table-gave-way" | false=>pure ()) Q' E s₁:=
      λb s₁ Q' hq=>by cases b <;> first | exact wpAny_pure hq | exact wpAny_rule hq
    have hperm:=layNew_perm t es ((intKind prog w).hash k) (.int k tk);have hfits:=layNew_fits t es ((intKind prog w).hash k) (.int k tk);obtain ⟨ok1,hl1⟩:=layNew_ok (es:=es) (h:=(intKind prog w).hash k) (x:=.int k tk) ok;generalize hL:layNew t es ((intKind prog w).hash k) (.int k tk)=L at hperm hfits ok1 hl1 ⊢;obtain ⟨es1,t1,wasDummy,gave⟩:=L;dsimp only at hperm hfits ok1 hl1 ⊢;have kp:List.Perm (Yk es1) (Yk es++[k]):=by
      have:=XZ hperm;refine this.trans (List.Perm.of_eq ?_);show ((es.push _).toList.map λe=>JV e.2)=es.toList.map (λe=>JV e.2)++[k];rw [Array.toList_push,List.map_append];rfl
    rw [Array.toList_push] at hperm;have hel1:ElemsOf (intKind prog w) es1.toList:=(hel.push hkey rfl).perm hperm;have hn1:(Yk es1).Nodup:=kp.nodup_iff.mpr (by
      rw [List.nodup_append];refine ⟨hnd,by simp,λx hx y hy=>?_⟩;rw [List.mem_singleton] at hy;subst hy;exact λe=>hk (e▸hx))
    have hmem1:∀k',k'∈is++[k] ↔ k'∈Yk es1:=λk'=>by
      rw [kp.mem_iff,List.mem_append,List.mem_append,hmem k']
    have hb1':es1.size<scanBound:=by rw [<-Array.length_toList,hperm.length_eq,List.length_append,Array.length_toList];simpa using hb1
    refine wpAny_bind (hgw _ ?_);have hled1:t1.led=!Yw w:=by rw [hl1,hled]
    (set_option tactic.hygienic true in split)
    · refine wpAny_bind ?_;rw [hashByValue_scannable 8 (show (Value.int k tk).scannable=true from rfl)];refine wpAny_pure ?_;refine Vg (t2:=t1) ?_ ho hel1 hn1 hmem1 hb1' hfits ok1 hled1 ?_
      · intro b s₁ Q' hq;cases b <;> first | exact wpAny_pure hq | exact wpAny_rule hq
      · intro h' hsb hS';dsimp only;exact wpAny_pure (h h' true hsb hS')
    · refine wpAny_bind (wpAny_pure ?_);refine Vg (t2:=t1) ?_ ho hel1 hn1 hmem1 hb1' hfits ok1 hled1 ?_
      · intro b s₁ Q' hq;cases b <;> first | exact wpAny_pure hq | exact wpAny_rule hq
      · intro h' hsb hS';dsimp only;exact wpAny_pure (h h' true hsb hS')
theorem KJ (a:Value) {Q₁:Value->Shared->Prop}
    (h:Q₁ (.ref s.heap.objs.size) { s with heap:=s.heap.push { cls:=.type "set",dict:=none,data:=.set #[] 0 (.fresh 0 0 (!Yw w)) } }) :
    codeAny (model prog w) A (.call (.builtin "set.__new__") ⟨[.type "set",a],[]⟩) (wants Q₁ E) s:=by
  refine codeAny_of_tree ?_;show wpAny _ A.in1 (do checkBuiltinCall "set.__new__" ⟨[.type "set",a],[]⟩;again (.builtin "set.__new__" ⟨[.type "set",a],[]⟩)) _ _ s;refine wpAny_bind (wpAny_of_eq (F.newCall_set_1 a) (wpAny_pure ⟨plainId_quiet F.plain_set_new _,codeAny_builtin F.entry_set_new ?_⟩));rw [Around.under_plainId F.plain_set_new _];unfold Builtin.«set.__new__» Builtin.Frozenset.newClass;have hsub:=PySem.sub_set_self;obtain ⟨hp,g,d,tk,os⟩:=s;dsimp only;wp_walk
  refine wpAny_askSetting (wpAny_pure ?_);dsimp only;simp only [newObj];refine wpAny_bind (wpAny_alloc (wpAny_pure ?_));exact wpAny_pure h
end
set_option tactic.hygienic false
section
variable {prog:Program} {w:World} {A:Around} {R:Result->Shared->Prop} {I:Addr} {fp wr:List Addr} {G:Array GenState->Array GenState->Prop} {n:Nat} {P:Nat->Value->Prop} {St:Nat->Shared->Prop}
theorem Vd (W:WalksS prog w A.in1 I fp wr G n P St) (S:Addr) (hSf:S∉fp) (ns:List Int) (hn:ns.length=n)
    (hval:∀i v,P i v->∃t,v=.int (ns.getD i 0) t) (hb:n+1<scanBound) :
    ∀(k i:Nat) (s:Shared),n-i=k->i<=n->St i s->Y1 prog w s.heap S (ns.take i)->
      (∀s',Moved (S::wr) G s s'->Y1 prog w s'.heap S ns->R (.ok (.ret .none)) s')->
      codeAny (model prog w) A (.builtin "set.update.loop" ⟨[.ref S,.ref I],[]⟩) R s:=by
  have hSw:S∉wr:=λh=>hSf (W.sub _ h);have hsub:∀b∈wr,b∈S::wr:=λb hb=>List.mem_cons_of_mem _ hb;intro k;induction k with
  | zero=>
    intro i s hk hi hst hS hR;have hin:i=n:=by omega
    subst hin;refine codeAny_builtin F.entry_set_update_loop ?_;rw [Around.under_plainId F.plain_set_update_loop _];show wpAny _ A.in1 (pyNext (.ref I) >>= _) _ _ s;refine wpAny_bind (W.done s _ _ hst λs' hm=>?_);show wpAny _ A.in1 (ret Value.none) _ _ s';refine wpAny_pure (hR s' (hm.mono hsub) ?_);rw [<-hn,List.take_length] at hS;exact hS.keep λo ho=>hm.heap S _ hSw ho
  | succ k ih=>
    intro i s hk hi hst hS hR;have hlt:i<n:=by omega
    refine codeAny_builtin F.entry_set_update_loop ?_;rw [Around.under_plainId F.plain_set_update_loop _];show wpAny _ A.in1 (pyNext (.ref I) >>= _) _ _ s;refine wpAny_bind (W.item i s _ _ hlt hst λv s' hP hst' hm=>?_);obtain ⟨t,rfl⟩:=hval i v hP;have hS':Y1 prog w s'.heap S (ns.take i):=hS.keep λo ho=>hm.heap S _ hSw ho;show wpAny _ A.in1 (holding [Value.int (ns.getD i 0) t] (setAdd S (.int (ns.getD i 0) t)) >>= _) _ _ s';refine wpAny_bind (wpAny_holding ?_);unfold setAdd;refine wpAny_holding ?_;refine wpAny_bind ((intKind prog w).pyHash (k:=ns.getD i 0) (intKind_is _ _ _ _) ?_);have hroom:(ns.take i).length+1<scanBound:=by rw [List.length_take];omega
    refine WL (s:={ s' with toks:=s'.toks+1 }) hS' hroom λh' b hsb hS2=>?_;have hSi:Y1 prog w h' S (ns.take (i+1)):=by
      have hi':i<ns.length:=by omega
      have e:ns.take (i+1)=ns.take i++[ns.getD i 0]:=by
        rw [List.take_succ_eq_append_getElem hi'];simp [List.getD,hi']
      rw [e];exact hS2
    refine wpAny_pure ⟨plainId_quiet F.plain_set_update_loop _,ih (i+1) _ (by omega) hlt (W.frame _ s' _ _ hst' (Nat.le_succ _) λb hb o e=>?_) hSi λs'' hm'' hS''=>?_⟩
    · rw [hsb.2 b (λh:b=S=>hSf (by rw [<-h];exact hb))];exact e
    · refine hR s'' (Moved.trans W.gtrans ((hm.mono hsub).then_heap (Nat.le_succ _) λb o hb e=>?_) hm'') hS'';rw [hsb.2 b (λh:b=S=>hb (by rw [h];exact List.mem_cons_self))];exact e
end
section
variable {prog:Program} {w:World} {A:Around} {E:Value->Shared->Prop} {s:Shared}
set_option maxRecDepth 100000 in
set_option maxHeartbeats 3200000 in
theorem set_init {S l:Addr} {items:Array Value} {ns:List Int} {Q:Fin->Shared->Prop}
    (hh:A.handled=none) (hS:s.heap.get? S=some { cls:=.type "set",dict:=none,data:=.set #[] 0 (.fresh 0 0 (!Yw w)) }) (hl:s.heap.IsList l items) (hlS:l≠S)
    (hi:PyProof.Rows.IntsAre items.toList ns) (hb:items.size+1<scanBound)
    (h:∀(h':Heap) (tk:Nat),Y1 prog w h' S ns->(∀b o,b≠S->s.heap.get? b=some o->h'.get? b=some o)->Q (.done (.ret .none)) { s with heap:=h',toks:=tk }) :
    wpAny (model prog w) A (Builtin.«set.__init__» ⟨[.ref S,.ref l],[]⟩) Q E s:=by
  have hI:=hl;obtain ⟨ol,hol,hcl,nl,hdl⟩:=hl;obtain ⟨ocls,odict,odata,oslots⟩:=ol;simp only at hcl hdl;subst hcl;subst hdl;have hT:s.TypeIs (.ref S) "set":=⟨_,hS,rfl⟩;have hsls:=F.sub_list_set;have hslf:=F.sub_list_frozenset;have hne:(Value.type "list"==Value.type "dict")=false:=by decide
  unfold Builtin.«set.__init__» noKeywords Builtin.Frozenset.updateFrom;generalize hPI:pyIter=PI;wp_walk
  subst hPI;refine wpAny_pyIter_list hI ?_;refine wpAny_bind (wpAny_runValue ?_);have hSs:S<s.heap.objs.size:=Heap.lt_size hS;have hSf:S∉[s.heap.objs.size,l]:=by
    simp only [List.mem_cons,List.mem_singleton,List.not_mem_nil,or_false,not_or];exact ⟨Nat.ne_of_lt hSs,Ne.symm hlS⟩
  have hlen:ns.length=items.size:=by have:=hi.length;simpa using this.symm
  refine Vd ((Walks.list (by simp [hh]) _ l (Nat.ne_of_lt (Heap.lt_size hol)) items).toS) S hSf ns hlen
    (λi v hv=>PyProof.Rows.IntsAre.int_at hi i v (by rw [Array.getElem?_toList];exact hv)) hb (items.size-0) 0 _ rfl (Nat.zero_le _)
    ⟨⟨_,Heap.get?_push_size _ rfl,rfl,rfl⟩,(hI.push _)⟩ ?hS0 ?hR
  case hS0=>exact ⟨#[],0,_,Heap.get?_push_of_some _ hS,λe he=>by simp at he,by simp [Yk],λk=>by simp [Yk],by decide,by rfl,⟨srt_empty,rfl⟩,rfl⟩
  case hR=>
    intro s' hm hS';obtain ⟨h',g',d',tk',os'⟩:=s';have eg:g'=s.gens:=hm.gens;have ed:d'=s.drawn:=hm.drawn;have eo:os'=s.os:=hm.os;subst eg;subst ed;subst eo;show wpAny _ _ _ _ _ _;refine wpAny_pure ?_;show wpAny _ _ (ret Value.none) _ _ _;refine wpAny_pure (h h' tk' hS' λb o hb e=>hm.heap b o ?_ (Heap.get?_push_of_some _ e));simp only [List.mem_cons,List.mem_singleton,List.not_mem_nil,or_false,not_or];exact ⟨hb,Nat.ne_of_lt (Heap.lt_size e)⟩
set_option maxRecDepth 100000 in
set_option maxHeartbeats 3200000 in
theorem Uj {l:Addr} {items:Array Value} {ns:List Int} {Q:Value->Shared->Prop}
    (hh:A.handled=none) (hl:s.heap.IsList l items) (hi:PyProof.Rows.IntsAre items.toList ns) (hb:items.size+1<scanBound)
    (h:∀(h':Heap) (tk:Nat),Y1 prog w h' s.heap.objs.size ns->
      (∀b o,b<s.heap.objs.size->s.heap.get? b=some o->h'.get? b=some o)->Q (.ref s.heap.objs.size) { s with heap:=h',toks:=tk }) :
    wpAny (model prog w) A (call (.type "set") [.ref l]) Q E s:=by
  obtain ⟨c,tl,hmro⟩:=F.called_set.mro;have hmade:=F.called_set.made;have hsub:=F.called_set.sub;refine wpAny_call (codeAny_of_tree ?_);show wpAny _ _ (callAny (.type "set") _) _ _ _;refine wpAny_pure ⟨Code.quiet_builtin _ (by decide +kernel),codeAny_builtin F.entry_type_call ?_⟩;rw [Around.under_plain (weight_type_call_type "set" [.ref l] []) rfl];have h1:=F.called_set.notType;have h2:=F.called_set.canCreate;have hct:=F.typeCall_set_1 (.ref l);repeat (any_goals (first | assumption | wp_step))
  refine codeAny_mono (KJ (.ref l) (E:=E) (Q₁:=λobj s₁=>obj=.ref s.heap.objs.size/\∃h,s₁={ s with heap:=h }/\h=s.heap.push { cls:=.type "set",dict:=none,data:=.set #[] 0 (.fresh 0 0 (!Yw w)) }) ⟨rfl,_,rfl,rfl⟩) λr s₁ hr=>?_;cases r with
  | error e=>exact hr
  | ok fl=>
    cases fl with
    | ret obj=>
      obtain ⟨rfl,hp,rfl,eh⟩:=hr;have hS:hp.get? s.heap.objs.size=some { cls:=.type "set",dict:=none,data:=.set #[] 0 (.fresh 0 0 (!Yw w)) }:=by rw [eh];exact Heap.get?_push_size _ rfl
      have hk:∀b o,s.heap.get? b=some o->hp.get? b=some o:=by rw [eh];exact λb o e=>Heap.get?_push_of_some _ e
      have hL:hp.IsList l items:=by rw [eh];exact hl.push _
      have hlS:l≠s.heap.objs.size:=by obtain ⟨o,ho,_⟩:=hl;exact Nat.ne_of_lt (Heap.lt_size ho)
      clear eh hl;have hT:Shared.TypeIs { s with heap:=hp } (.ref s.heap.objs.size) "set":=⟨_,hS,rfl⟩;have hli:=F.called_set.init.lookup;have hbi:=F.called_set.init.bind (.ref s.heap.objs.size);repeat (any_goals (first | assumption | wp_step))
      refine codeAny_mono (codeAny_call_builtin (R:=wants (λr s₂=>r=.none/\∃h' tk,s₂={ s with heap:=h',toks:=tk }/\Y1 prog w h' s.heap.objs.size ns/\
          (∀b o,b<s.heap.objs.size->s.heap.get? b=some o->h'.get? b=some o)) E) F.called_set.init.plain F.entry_set_init (check_set_init_1 hT
            (set_init (by simp [hh]) hS hL hlS hi hb λh' tk hS' k=>⟨rfl,h',tk,rfl,hS',λb o hb e=>k b o (Nat.ne_of_lt hb) (hk b o e)⟩))) λr₂ s₂ hr₂=>?_
      cases r₂ with
      | error e=>exact hr₂
      | ok fl₂=>
        cases fl₂ with
        | ret r=>
          obtain ⟨rfl,h',tk,rfl,hS',hk'⟩:=hr₂;repeat (any_goals (first | assumption | wp_step))
          exact h _ _ hS' hk'
        | _=>exact hr₂.elim
    | _=>exact hr.elim
end
set_option tactic.hygienic false
theorem Vt:entryFor table "set.__iter__"=some Builtin.«frozenset.__iter__»:=
  entryFor_alias (id':="frozenset.__iter__") (by kernel_rfl) rfl (by decide +kernel) (by kernel_rfl)
theorem Z8:Slot "set_iterator" "__next__" "set_iterator.__next__":=
  .of (owner:="set_iterator") (n:="__next__") (by rw [typeLookup_type,builtinLookup_eq_fast];kernel_rfl) (by decide +kernel) (by decide +kernel) (by decide +kernel)
    (by first | exact .inl (by decide +kernel) | exact .inr (by decide +kernel)) (by rw [isSubtype_type];kernel_rfl)
theorem X5:entryFor table "set_iterator.__next__"=some Builtin.«set_iterator.__next__»:=entryFor_of_tree (by kernel_rfl)
theorem Xb:Manifest.owners.lookup (String.ofList ['r','o','t','a','r','e','t','i','_','t','e','s'].reverse)=some Manifest.sig_set_iterator:=by kernel_rfl
theorem Jq (a:Value):argsOk "set_iterator.__next__" ⟨[a],[]⟩:=by
  unfold argsOk;rw [signature?_of (id:="set_iterator.__next__") (n:=['_','_','t','x','e','n','_','_']) (o:=['r','o','t','a','r','e','t','i','_','t','e','s']) (by kernel_rfl) Xb];kernel_rfl
section
variable {prog:Program} {w:World} {A:Around} {E:Value->Shared->Prop} {s:Shared}
theorem split_at {α:Type} (l:List α) (k:Nat) (h:k<l.length):l=l.take k++l[k]::l.drop (k+1):=by simp
theorem WW {src:Source} {n:Nat} {Q:Nat->Shared->Prop} (h0:n≠0) (h:∀k d,k<n->Q k { s with drawn:=d }):wpAny (model prog w) A (choose src n) Q E s:=λΓ p hΓ=>by
  show Sem.wp _ _ (.choose src n .pure) _ _ _ _;rw [Sem.wp_choose];exact ⟨h0,h _ _ (Nat.mod_lt _ (by lia))⟩
theorem KG {α:Type} {Q:List α->Shared->Prop}:∀(n:Nat) (xs:List α) {s:Shared},xs.length=n->(∀ys d,List.Perm ys xs->Q ys { s with drawn:=d })->wpAny (model prog w) A (drawOrder n xs) Q E s:=λn=>by
  induction n generalizing Q with
  | zero=>
    intro xs s hn h;have:xs=[]:=List.eq_nil_of_length_eq_zero hn;subst this;exact wpAny_pure (h [] s.drawn (List.Perm.refl _))
  | succ n ih=>
    intro xs s hn h;cases xs with
    | nil=>cases hn
    | cons x r=>
      show wpAny _ _ (choose _ _ >>= _) _ _ _;refine wpAny_bind (WW (by simp) λk d hk=>?_);rw [List.getElem?_eq_getElem hk];dsimp only;refine wpAny_bind (ih _ (by rw [List.length_eraseIdx_of_lt hk];simp at hn ⊢;lia) λys d' hp=>?_);refine wpAny_pure (h _ d' ?_);refine (List.Perm.cons _ hp).trans ?_;have e1:=split_at (x::r) k hk;have e2:(x::r).eraseIdx k=(x::r).take k++(x::r).drop (k+1):=List.eraseIdx_eq_take_drop_succ ..;rw [e2];refine List.Perm.trans ?_ (List.Perm.of_eq e1.symm);exact List.perm_middle.symm
inductive Way (w:World) (h:Heap) (a:Addr) (es:Array (Int×Value)) (ep:Nat) (t:SetTable):List (Int×Value)->(Nat->Value)->Prop
  | text:Yw w=true->Way w h a es ep t (pickOrder (w.params.setOrder a ep) es).toList (λ_=>rawInt 0)
  | table:Yw w=false->(!t.plain&&decide (es.size>1))=false->Way w h a es ep t es.toList (λi=>rawInt (WZ t.place i))
  | drawn (T:Addr) (places:List Nat):h.get? T=some { cls:=.type "tuple",data:=.seq (places.map λi=>rawInt (i:Nat)).toArray }->List.Perm places (List.range es.size)->Way w h a es ep t (places.filterMap (es[·]?)) (λ_=>.ref T)
noncomputable def VH (w:World) (h:Heap) (a:Addr) (es:Array (Int×Value)) (ep:Nat) (t:SetTable):Prop:=
  h.get? a=some { cls:=.type "set",dict:=none,data:=.set es ep t }/\t.fits es.size=true/\TOk t/\t.led=!Yw w
noncomputable def Jx (w:World) (I a:Addr) (es:Array (Int×Value)) (ep:Nat) (t:SetTable) (ord:List (Int×Value)) (fst:Nat->Value) (i:Nat) (h:Heap):Prop:=
  Way w h a es ep t ord fst/\h.get? I=some { cls:=.type "set_iterator",data:=.fields #[fst i,.int i 0,.ref a,.int es.size 0,.int ep 0] }
noncomputable def JA:Value->List Addr
  | .ref T=>[T]
  | _=>[]
theorem Way.frame {h h':Heap} {a:Addr} {es:Array (Int×Value)} {ep:Nat} {t:SetTable} {ord:List (Int×Value)} {fst:Nat->Value} (x:Way w h a es ep t ord fst) (k:∀b∈JA (fst 0),∀o,h.get? b=some o->h'.get? b=some o):Way w h' a es ep t ord fst:=by
  cases x with
  | text hb=>exact .text hb
  | table hb hd=>exact .table hb hd
  | drawn T places hT hp=>exact .drawn T places (k T (show T∈[T] from List.mem_cons_self) _ hT) hp
theorem XQ {es:Array (Int×Value)}:∀{places:List Nat},(∀i∈places,i<es.size)->(places.filterMap (es[·]?)).length=places.length/\∀(j p:Nat),places[j]?=some p->(places.filterMap (es[·]?))[j]?=es[p]?
  :=λ{places}=>by
  induction places with
  | nil=>intro _;exact ⟨rfl,λj p h=>by simp at h⟩
  | cons q r ih=>
    intro h;have hq:q<es.size:=h q List.mem_cons_self;obtain ⟨ih1,ih2⟩:=ih λi hi=>h i (List.mem_cons_of_mem _ hi);rw [List.filterMap_cons,Array.getElem?_eq_getElem hq];dsimp only;refine ⟨by simp [ih1],λj p hj=>?_⟩;cases j with
    | zero=>simp only [List.getElem?_cons_zero,Option.some.injEq] at hj ⊢;subst hj;rw [Array.getElem?_eq_getElem hq]
    | succ j=>simp only [List.getElem?_cons_succ] at hj ⊢;exact ih2 j p hj
theorem Way.perm {h:Heap} {a:Addr} {es:Array (Int×Value)} {ep:Nat} {t:SetTable} {ord:List (Int×Value)} {fst:Nat->Value} (x:Way w h a es ep t ord fst):List.Perm ord es.toList:=by
  cases x with
  | text=>exact pick_perm _ _
  | table=>exact List.Perm.refl _
  | drawn T places hT hp=>exact (hp.filterMap _).trans (List.Perm.of_eq (filterMap_getElem?_range es))
theorem YP {Q:Bool->Shared->Prop} (h:Q (Yw w) s):wpAny (model prog w) A setsByText Q E s:=by
  unfold setsByText;exact wpAny_bind (wpAny_askSetting (wpAny_pure h))
theorem UB {a:Addr} {es:Array (Int×Value)} {ep:Nat} {t:SetTable} {Q:Value->Shared->Prop} (hS:VH w s.heap a es ep t) (hb:es.size<scanBound)
    (h:∀I ord fst h' d,s.heap.get? I=none->(∀b∈JA (fst 0),s.heap.get? b=none/\b≠I)->(∀b o,s.heap.get? b=some o->h'.get? b=some o)->Jx w I a es ep t ord fst 0 h'->Q (.ref I) { s with heap:=h',drawn:=d }) :
    wpAny (model prog w) A (pyIter (.ref a)) Q E s:=by
  obtain ⟨ho,hf,ok,hled⟩:=hS;have hT:s.TypeIs (.ref a) "set":=⟨_,ho,rfl⟩;refine wpAny_pyIter_slot hT F.slot_set_iter (wpAny_call_entry F.slot_set_iter hT Vt ?_ (F.args_set_iter_1 _));unfold Builtin.«frozenset.__iter__» Builtin.Frozenset.slot0 slotArgs;simp only [List.isEmpty_nil,Bool.not_true,Bool.false_eq_true,↓reduceIte,bind_assoc,List.length_nil,bne_self_eq_false];unfold Builtin.Frozenset.addrOf Builtin.Frozenset.sizeOf;refine wpAny_bind (wpAny_pure ?_);try dsimp only
  refine wpAny_bind (wpAny_pure ?_);refine wpAny_bind (wpAny_bind (wpAny_setEntries_of ho rfl hf (wpAny_pure ?_)));unfold setDrawn;refine wpAny_bind (wpAny_bind (wpAny_setState_of ho rfl hf ?_));dsimp only;refine wpAny_bind (YP (wpAny_pure ?_));show wpAny _ _ (if (!Yw w&&(!t.plain&&decide (es.size>1)))=true then _ else _) _ _ _;have fin:∀(fst:Nat->Value) (v0:Value) (ord:List (Int×Value)) (h1:Heap) (d:Drawn),fst 0=v0->(∀b o,s.heap.get? b=some o->h1.get? b=some o)->Way w h1 a es ep t ord fst->(∀b∈JA (fst 0),s.heap.get? b=none/\b<h1.objs.size)->
      wpAny (model prog w) A.in1 (do
        let __do_lift<-setEpoch a
        let __do_lift<-newFields "set_iterator" [v0,rawInt 0,Value.ref a,rawInt ↑es.size,rawInt ↑__do_lift]
        ret __do_lift) (λfin s'=>∃r,fin=.done (.ret r)/\(∃T r',s'.TypeIs r T/\typeLookup (.type T) "__next__"=pure (some r')/\Q r s')) E { s with heap:=h1,drawn:=d }:=by
    intro fst v0 ord h1 d hv hk hw hft0;subst hv;refine wpAny_bind (wpAny_setEpoch_of (s:={ s with heap:=h1,drawn:=d }) (hk a _ ho) rfl hf ?_);unfold newFields;refine wpAny_bind (wpAny_newObj_type (wpAny_pure ⟨_,rfl,"set_iterator",_,⟨_,Heap.get?_push_size _ rfl,rfl⟩,Z8.lookup,?_⟩));refine h h1.objs.size ord fst _ d ?_ (λb hb=>⟨(hft0 b hb).1,Nat.ne_of_lt (hft0 b hb).2⟩) (λb o e=>Heap.get?_push_of_some _ (hk b o e)) ⟨?_,Heap.get?_push_size _ rfl⟩
    · cases e:s.heap.get? h1.objs.size with
      | none=>rfl
      | some o=>exact absurd (Heap.lt_size (hk _ _ e)) (Nat.lt_irrefl _)
    · cases hw with
      | text hb=>exact .text hb
      | table hb hd=>exact .table hb hd
      | drawn T places hT hp=>exact .drawn T places (Heap.get?_push_of_some _ hT) hp
  cases hd:(!Yw w&&(!t.plain&&decide (es.size>1))) with
  | false=>
    rw [if_neg Bool.false_ne_true];refine wpAny_bind (wpAny_pure ?_);by_cases hbt:Yw w=true
    · exact fin (λ_=>rawInt 0) _ _ s.heap s.drawn rfl (λ_ _ e=>e) (.text hbt) (λb hb=>(nomatch hb))
    · have hbt':Yw w=false:=by simpa using hbt
      rw [hbt'] at hd;exact fin (λi=>rawInt (WZ t.place i)) (rawInt 0) _ s.heap s.drawn rfl (λ_ _ e=>e) (.table hbt' (by simpa using hd)) (λb hb=>(nomatch hb))
  | true=>
    rw [if_pos rfl];refine wpAny_bind (KG es.size (List.range es.size) (by simp) λplaces d hp=>?_);have hl:(places.map λi=>rawInt (i:Nat)).length<=sizeLine:=by
      rw [List.length_map,hp.length_eq,List.length_range];exact fits_of_scanBound hb
    refine wpAny_bind (wpAny_newTuple ?_ hl);exact fin (λ_=>.ref s.heap.objs.size) _ _ _ d rfl (λb o e=>Heap.get?_push_of_some _ e) (.drawn s.heap.objs.size places (Heap.get?_push_size _ rfl) hp) (λb hb=>by
      have hb:=List.mem_singleton.mp (show b∈[s.heap.objs.size] from hb);subst hb;exact ⟨Zf _,by rw [Heap.size_push];exact Nat.lt_succ_self _⟩)
end
set_option tactic.hygienic false
section
variable {prog:Program} {w:World} {A:Around} {E:Value->Shared->Prop} {s:Shared}
theorem Vq {a:Addr} {es:Array (Int×Value)} {ep:Nat} {t:SetTable} {ord:List (Int×Value)} {fst:Nat->Value} {i:Nat} {sl:Int} {tk:Tok} {Q:Option (Value×Nat)->Shared->Prop}
    (hS:VH w s.heap a es ep t) (hw:Way w s.heap a es ep t ord fst) (hi:i<=es.size) (hf:fst i=.int sl tk)
    (h1:ord[i]?=none->Q none s) (h2:∀e n,ord[i]?=some e->fst (i+1)=rawInt (n:Nat)->Q (some (e.2,n)) s) :
    wpAny (model prog w) A (setNext a sl.toNat i ep) Q E s:=by
  obtain ⟨ho,hft,ok,hled⟩:=hS;unfold setNext;refine wpAny_bind (wpAny_setState_of ho rfl hft ?_);dsimp only;refine wpAny_bind (YP ?_);cases hw with
  | text hb=>
    rw [if_pos hb];have e0:sl=0:=by injection hf with hf _;exact hf.symm
    subst e0;rw [if_neg (by simp)];unfold setWalk;refine wpAny_bind (wpAny_bind (wpAny_setState_of ho rfl hft ?_));dsimp only;refine wpAny_bind (YP ?_);rw [if_pos hb];refine wpAny_bind (wpAny_askSetting (wpAny_pure ?_));refine wpAny_pure ?_;show Q (((pickOrder (w.params.setOrder a ep) es)[i]?).map λe=>(e.2,(0:Int).toNat)) s;have e1:(pickOrder (w.params.setOrder a ep) es)[i]?=(pickOrder (w.params.setOrder a ep) es).toList[i]?:=by simp
    rw [e1];cases q:(pickOrder (w.params.setOrder a ep) es).toList[i]? with
    | none=>exact h1 q
    | some e=>exact h2 e 0 q rfl
  | table hb hd=>
    rw [if_neg (by rw [hb];exact Bool.false_ne_true)];show wpAny _ _ (if (!t.plain&&decide (es.size>1))=true then _ else _) _ _ _;rw [if_neg (by rw [hd];exact Bool.false_ne_true)];have hl:t.led=true:=by rw [hled,hb];rfl
    refine wpAny_bind ?_;show wpAny _ _ (if (!t.led&&!es.isEmpty)=true then _ else _) _ _ _;rw [if_neg (by rw [hl];simp)];refine wpAny_pure (wpAny_pure ?_);have e0:sl=(WZ t.place i:Nat):=by injection hf with hf _;exact hf.symm
    subst e0;have hps:t.place.size=es.size:=by
      simp only [SetTable.fits,Bool.and_eq_true,beq_iff_eq] at hft;exact hft.1
    rw [Int.toNat_natCast,Ut ok.srt (by lia)];have e1:es[i]?=es.toList[i]?:=by simp
    rw [e1];cases q:es.toList[i]? with
    | none=>exact h1 q
    | some e=>
      have hlt:i<es.size:=by have:=(List.getElem?_eq_some_iff.mp q).1;simpa using this
      rw [Array.getElem?_eq_getElem (by lia:i<t.place.size)];refine h2 e _ q ?_;show rawInt ((t.place.getD i 0+1:Nat):Int)=_;rw [KR (by lia:i<t.place.size)]
  | drawn T places hT hp=>cases hf
theorem KN {I a:Addr} {es:Array (Int×Value)} {ep:Nat} {t:SetTable} {ord:List (Int×Value)} {fst:Nat->Value} {i:Nat} {e:Int×Value} {Q:Option Value->Shared->Prop} (hS:VH w s.heap a es ep t) (hI:Jx w I a es ep t ord fst i s.heap)
    (hx:ord[i]?=some e) (hIa:a≠I) (hQ:∀h',Heap.SameBut I s.heap h'->Jx w I a es ep t ord fst (i+1) h'->Q (some e.2) { s with heap:=h' }):wpAny (model prog w) A (pyNext (.ref I)) Q E s:=by
  obtain ⟨hw,hi⟩:=hI;obtain ⟨ho,hft,ok,hled⟩:=id hS;have hT:s.TypeIs (.ref I) "set_iterator":=⟨_,hi,rfl⟩;have hlt:i<es.size:=by
    have h1:=(List.getElem?_eq_some_iff.mp hx).1;have h2:=hw.perm.length_eq;simp at h2;lia
  unfold pyNext;refine wpAny_bind (wpAny_attempt (wpAny_callSpecial?_slot (name:=Str.ofString "__next__") hT Z8
    (wpAny_call_entry Z8 hT X5 ?_ (Jq _))))
  show wpAny _ _ (fieldsOf (.ref I) >>= _) _ _ s;refine wpAny_bind (wpAny_fieldsOf hi rfl ?_);show wpAny _ _ (setEntries a >>= _) _ _ s;refine wpAny_bind (wpAny_setEntries_of ho rfl hft ?_);rw [if_neg (by simp)];have hII:∀(b:Addr) (o:Obj),o.cls≠.type "set_iterator"->s.heap.get? b=some o->b≠I:=λb o hc hb q=>by
    subst q;rw [hi] at hb;cases hb;exact hc rfl
  have keepW:∀h' fst',Heap.SameBut I s.heap h'->Way w s.heap a es ep t ord fst'->Way w h' a es ep t ord fst':=λh' fst' hs x=>by
    cases x with
    | text hb=>exact .text hb
    | table hb hd=>exact .table hb hd
    | drawn T places hT hp=>exact .drawn T places ((hs.2 T (hII T _ (by intro q;injection q with q;exact absurd q (by decide)) hT)).trans hT) hp
  by_cases hdr:∃T,fst i=.ref T
  · obtain ⟨T,hT'⟩:=hdr;cases hw with
    | text hb=>cases hT'
    | table hb hd=>cases hT'
    | drawn T' places hTT hp=>
      cases hT';show wpAny _ _ (seqItems? (.ref T') >>= _) _ _ s;refine wpAny_bind (wpAny_seqItems hTT rfl ?_);have hin:∀j∈places,j<es.size:=λj hj=>by have:=hp.mem_iff.mp hj;simpa using this
      obtain ⟨l1,l2⟩:=XQ (es:=es) hin;have hlp:i<places.length:=by
        have:=(List.getElem?_eq_some_iff.mp hx).1;lia
      have hpl:places[i]?=some places[i]:=List.getElem?_eq_getElem hlp;have hes:es[places[i]]?=some e:=by rw [<-l2 i _ hpl];exact hx
      have e1:((places.map λi=>rawInt (i:Nat)).toArray)[(i:Int).toNat]?=some (rawInt (places[i]:Nat)):=by simp [hlp]
      dsimp only;rw [e1];show wpAny _ _ (setNextDrawn a (places[i]:Int).toNat (ep:Int).toNat >>= _) _ _ s;unfold setNextDrawn;refine wpAny_bind (wpAny_bind (wpAny_setState_of ho rfl hft ?_));dsimp only;rw [if_neg (by simp)];rw [Int.toNat_natCast,hes];refine wpAny_pure ?_;refine wpAny_bind (wpAny_setField hi rfl (by simp) ?_);refine wpAny_pure ⟨_,rfl,?_⟩;refine wpAny_pure (hQ _ (Heap.SameBut.update ..) ⟨keepW _ _ (Heap.SameBut.update ..) (.drawn T' places hTT hp),?_⟩);exact Heap.get?_update_self _ hi rfl
  · obtain ⟨sl,tk,hsl⟩:∃sl tk,fst i=.int sl tk:=by
      cases hw with
      | text hb=>exact ⟨_,_,rfl⟩
      | table hb hd=>exact ⟨_,_,rfl⟩
      | drawn T' places hTT hp=>exact absurd ⟨_,rfl⟩ hdr
    rw [hsl];show wpAny _ _ (setNext a sl.toNat (i:Int).toNat (ep:Int).toNat >>= _) _ _ s;rw [Int.toNat_natCast,Int.toNat_natCast];refine wpAny_bind (Vq hS hw (Nat.le_of_lt hlt) hsl (λq=>by rw [hx] at q;cases q) λe' n he' hfn=>?_);rw [hx] at he';cases he';dsimp only;rw [hsl] at hi;refine wpAny_bind (wpAny_setField hi rfl (by simp) ?_);have g1:=Heap.get?_update_self (Obj.mapFields (·.setIfInBounds 0 (rawInt (n:Nat)))) hi rfl;refine wpAny_bind (wpAny_setField (s:={ s with heap:=s.heap.update I (Obj.mapFields (·.setIfInBounds 0 (rawInt (n:Nat)))) }) g1 rfl (by simp [Obj.mapFields]) ?_);refine wpAny_pure ⟨_,rfl,?_⟩;have hs2:Heap.SameBut I s.heap ((s.heap.update I (Obj.mapFields (·.setIfInBounds 0 (rawInt (n:Nat))))).update I (Obj.mapFields (·.setIfInBounds 1 (rawInt ((i:Int)+1))))):=(Heap.SameBut.update ..).trans (Heap.SameBut.update ..);refine wpAny_pure (hQ _ hs2 ⟨keepW _ _ hs2 hw,?_⟩);rw [hfn];exact Heap.get?_update_self _ g1 rfl
theorem Wk {I:Addr} {h0:Heap} {Q:Option Value->Shared->Prop} (hh:A.handled=none) (x:Heap.ExtBut I h0 s.heap) (hQ:∀h',Heap.ExtBut I h0 h'->Q none { s with heap:=h' }) :
    wpAny (model prog w) A.in1 (newExc (.type "StopIteration") [] >>= λx=>raiseNew x) (λfin s'=>∃v,fin=Fin.done (Flow.ret v)/\wpAny (model prog w) A (pure (some v)) Q E s')
      (λe s'=>wpAny (model prog w) A (do if<-isInstance e (.type "StopIteration") then pure none else throw e) Q E s') s:=by
  refine wpAny_bind ?_;simp only [newExc,newTuple];refine wpAny_bind (wpAny_newObj_type ?_ (by size_fits));refine wpAny_bind (m:=firstArgMember _ _) (wpAny_of_eq (a:=Value.none) (by first | rfl | (simp only [firstArgMember];rfl)) ?_);refine wpAny_newObj_type ?_ (by size_fits);show wpAny _ _ (handled >>= _) _ _ _;refine wpAny_bind (wpAny_handled ?_);first | rw [show A.in1.handled=none from hh] | rw [hh]
  refine wpAny_bind (wpAny_pure (wpAny_throw ?_));refine wpAny_bind (wpAny_isInstance (T:="StopIteration") (b:=true) ⟨_,Heap.get?_push_size _ rfl,rfl⟩ isSubtype_stop ?_);exact wpAny_pure (hQ _ ((x.push _).push _))
theorem VF {I a:Addr} {es:Array (Int×Value)} {ep:Nat} {t:SetTable} {ord:List (Int×Value)} {fst:Nat->Value} {Q:Option Value->Shared->Prop} (hh:A.handled=none) (hS:VH w s.heap a es ep t) (hI:Jx w I a es ep t ord fst es.size s.heap)
    (hQ:∀h',Heap.ExtBut I s.heap h'->Q none { s with heap:=h' }):wpAny (model prog w) A (pyNext (.ref I)) Q E s:=by
  obtain ⟨hw,hi⟩:=hI;obtain ⟨ho,hft,ok,hled⟩:=id hS;have hT:s.TypeIs (.ref I) "set_iterator":=⟨_,hi,rfl⟩;have hlen:ord.length=es.size:=by have h2:=hw.perm.length_eq;simpa using h2
  have hnone:ord[es.size]?=none:=by simp [hlen]
  unfold pyNext;refine wpAny_bind (wpAny_attempt (wpAny_callSpecial?_slot (name:=Str.ofString "__next__") hT Z8
    (wpAny_call_entry Z8 hT X5 ?_ (Jq _))))
  show wpAny _ _ (fieldsOf (.ref I) >>= _) _ _ s;refine wpAny_bind (wpAny_fieldsOf hi rfl ?_);show wpAny _ _ (setEntries a >>= _) _ _ s;refine wpAny_bind (wpAny_setEntries_of ho rfl hft ?_);rw [if_neg (by simp)];by_cases hdr:∃T,fst es.size=.ref T
  · obtain ⟨T,hT'⟩:=hdr;cases hw with
    | text hb=>cases hT'
    | table hb hd=>cases hT'
    | drawn T' places hTT hp=>
      cases hT';show wpAny _ _ (seqItems? (.ref T') >>= _) _ _ s;refine wpAny_bind (wpAny_seqItems hTT rfl ?_);have hpl:places.length=es.size:=by rw [hp.length_eq];simp
      have e1:((places.map λi=>rawInt (i:Nat)).toArray)[(es.size:Int).toNat]?=none:=by simp [hpl]
      dsimp only;rw [e1];show wpAny _ _ (setField (.ref I) 0 (rawInt 0) >>= _) _ _ _;refine wpAny_bind (wpAny_setField hi rfl (by simp) ?_);have g1:=Heap.get?_update_self (Obj.mapFields (·.setIfInBounds 0 (rawInt 0))) hi rfl;refine wpAny_bind (wpAny_setField (s:={ s with heap:=s.heap.update I (Obj.mapFields (·.setIfInBounds 0 (rawInt 0))) }) g1 rfl (by simp [Obj.mapFields]) ?_);exact Wk (h0:=s.heap) hh ((Heap.SameBut.update ..).trans (Heap.SameBut.update ..)).extBut hQ
  · obtain ⟨sl,tk,hsl⟩:∃sl tk,fst es.size=.int sl tk:=by
      cases hw with
      | text hb=>exact ⟨_,_,rfl⟩
      | table hb hd=>exact ⟨_,_,rfl⟩
      | drawn T' places hTT hp=>exact absurd ⟨_,rfl⟩ hdr
    rw [hsl];show wpAny _ _ (setNext a sl.toNat (es.size:Int).toNat (ep:Int).toNat >>= _) _ _ s;rw [Int.toNat_natCast,Int.toNat_natCast];refine wpAny_bind (Vq hS hw (Nat.le_refl _) hsl (λq=>?_) λe' n he' hfn=>by rw [hnone] at he';cases he');dsimp only;rw [hsl] at hi;refine wpAny_bind (wpAny_setField hi rfl (by simp) ?_);exact Wk (h0:=s.heap) hh (Heap.SameBut.update ..).extBut hQ
end
open PySem PySem.W PyProof.Rows PySem.Calls
set_option tactic.hygienic false
section
variable {prog:Program} {w:World} {A:Around} {E:Value->Shared->Prop} {s:Shared}
theorem hint_set {r:Addr} {Q:Bool->Shared->Prop} (hT:s.TypeIs (.ref r) "set") (h:Q false s):wpAny (model prog w) A (Builtin.List.listLengthHint (.ref r)) Q E s:=by
  unfold Builtin.List.listLengthHint;refine wpAny_bind (wpAny_specialOf hT PySem.F.slot_set_len.lookup ?_);generalize hid:("set.__len__":String)=id0;wp_delta
  rw [show splitId id0=some ("set","__len__") from by subst hid;decide +kernel];subst hid;refine wpAny_bind (wpAny_isInstance (T:="set") (b:=true) hT (by rw [isSubtype_type];kernel_rfl) ?_);refine wpAny_ite_split (λhab=>absurd hab (by decide)) (λ_=>?_);refine wpAny_ite_split (λ_=>?_) (λhab=>absurd (by decide +kernel) hab);refine wpAny_bind (wpAny_typeOf hT ?_);exact wpAny_pure h
theorem Xz:Slot "set_iterator" "__iter__" "set_iterator.__iter__":=
  .of (owner:="set_iterator") (n:="__iter__") (by rw [typeLookup_type,builtinLookup_eq_fast];kernel_rfl) (by decide +kernel) (by decide +kernel) (by decide +kernel)
    (by first | exact .inl (by decide +kernel) | exact .inr (by decide +kernel)) (by rw [isSubtype_type];kernel_rfl)
theorem JR:entryFor table "set_iterator.__iter__"=some Builtin.«dict_keyiterator.__iter__»:=
  entryFor_alias (id':="dict_keyiterator.__iter__") (by kernel_rfl) rfl (by decide +kernel) (by kernel_rfl)
theorem Kl (a:Value):argsOk "set_iterator.__iter__" ⟨[a],[]⟩:=by
  unfold argsOk;rw [signature?_of (id:="set_iterator.__iter__") (n:=['_','_','r','e','t','i','_','_']) (o:=['r','o','t','a','r','e','t','i','_','t','e','s']) (by kernel_rfl) Xb];kernel_rfl
theorem walks_set (hh:A.handled=none) (I a:Addr) (es:Array (Int×Value)) (ep:Nat) (t:SetTable) (ord:List (Int×Value)) (fst:Nat->Value) (hIa:a≠I) (hfI:∀b∈JA (fst 0),b≠I) (hl:ord.length=es.size) :
    Walks prog w A I (I::a::JA (fst 0)) [I] es.size (λi v=>∃e,ord[i]?=some e/\v=e.2) (λi h=>VH w h a es ep t/\Jx w I a es ep t ord fst i h) where
  sub:=λb hb=>by simp at hb;simp [hb]
  frame:=λi h h' zz hk=>by obtain ⟨⟨x1,x2⟩,y1,y2⟩:=zz;exact ⟨⟨hk a (by simp) _ x1,x2⟩,y1.frame λb hb=>hk b (by simp [hb]),hk I (by simp) _ y2⟩
  item:=λi s Q E hi zz hQ=>by
    obtain ⟨x,y⟩:=zz;have hlt:i<ord.length:=by lia
    refine KN x y (List.getElem?_eq_getElem hlt) hIa λh' hs hI'=>?_;exact hQ _ h' s.toks ⟨_,List.getElem?_eq_getElem hlt,rfl⟩ ⟨⟨(hs.2 a hIa).trans x.1,x.2⟩,hI'⟩ λb o hb e=>(hs.2 b (λq=>hb (by simp [q]))).trans e
  done:=λs Q E zz hQ=>by obtain ⟨x,y⟩:=zz;exact VF hh x y λh' he=>hQ h' s.toks λb o hb e=>he b o (λq=>hb (by simp [q])) e
  self:=λi s Q E zz hQ=>by
    obtain ⟨x,y⟩:=zz;have hT:s.TypeIs (.ref I) "set_iterator":=⟨_,y.2,rfl⟩;refine wpAny_pyIter_slot hT Xz (wpAny_call_entry Xz hT JR ?_ (Kl _));show wpAny _ _ (ret (.ref I)) _ _ s;exact wpAny_pure ⟨_,rfl,"set_iterator",_,hT,Z8.lookup,hQ⟩
theorem Qb {a:Addr} {is:List Int} {Q:List Value->Shared->Prop} (hh:A.handled=none) (hS:Y1 prog w s.heap a is)
    (h:∀h' tk d ks vs,(∀b o,s.heap.get? b=some o->h'.get? b=some o)->IntsAre vs ks->ks.Nodup->(∀k,k∈ks ↔ k∈is)->Q vs { s with heap:=h',toks:=tk,drawn:=d }) :
    wpAny (model prog w) A (collect (.ref a)) Q E s:=by
  obtain ⟨es,ep,t,ho,hel,hnd,hmem,hb,hf,ok,hled⟩:=hS;have hn:es.size<=sizeLine:=fits_of_scanBound hb;have halt:a<s.heap.objs.size:=Heap.lt_size ho;unfold collect;refine wpAny_bind (wpAny_runValue (codeAny_builtin entry_proto_collect' ?_));rw [Around.under_plainId PySem.F.plain_proto_collect _];show wpAny _ A.in1 (newList [] >>= λl=>again (.builtin "list.__iadd__" ⟨[l,.ref a],[]⟩)) _ _ s;refine wpAny_bind (wpAny_newObj_type ?_);refine wpAny_pure ⟨plainId_quiet PySem.F.plain_list_iadd _,codeAny_builtin entry_list_iadd' ?_⟩;rw [Around.under_plainId PySem.F.plain_list_iadd _];have hS₁:(s.heap.push { cls:=.type "list",data:=.seq ([]:List Value).toArray }).get? s.heap.objs.size=some { cls:=.type "list",data:=.seq #[] }:=Heap.get?_push_size _ rfl;have ho1:(s.heap.push { cls:=.type "list",data:=.seq ([]:List Value).toArray }).get? a=some { cls:=.type "set",dict:=none,data:=.set es ep t }:=Heap.get?_push_of_some _ ho;show wpAny _ A.in1 (Builtin.List.listExtendWith (.ref s.heap.objs.size) (.ref a) (.ref s.heap.objs.size)) _ _ _;unfold Builtin.List.listExtendWith;have hT1:Shared.TypeIs { s with heap:=s.heap.push { cls:=.type "list",data:=.seq ([]:List Value).toArray } } (.ref a) "set":=⟨_,ho1,rfl⟩;refine wpAny_bind (wpAny_typeOf (T:="set") hT1 ?_);have hSa:s.heap.objs.size≠a:=Nat.ne_of_gt halt;have h1:Builtin.List.listSameRef (.ref s.heap.objs.size) (.ref a)=false:=by simp [Builtin.List.listSameRef,hSa]
  have h2:(Value.type "set"==Value.type "list")=false:=by decide
  have h3:(Value.type "set"==Value.type "tuple")=false:=by decide
  rw [h1,h2,h3];refine wpAny_ite_split (λhab=>absurd hab (by decide)) (λ_=>?_);refine wpAny_bind (UB (s:={ s with heap:=s.heap.push { cls:=.type "list",data:=.seq ([]:List Value).toArray } }) ⟨ho1,hf,ok,hled⟩ hb λI ord fst h2 d hI hfoot hk hit=>?_);have hIS:I≠s.heap.objs.size:=λq=>by subst q;rw [hS₁] at hI;cases hI
  have hIa:a≠I:=λq=>by subst q;rw [ho1] at hI;cases hI
  have hfS:s.heap.objs.size∉I::a::JA (fst 0):=by
    simp only [List.mem_cons,not_or];refine ⟨λq=>hIS q.symm,hSa,λq=>?_⟩;have:=(hfoot _ q).1;rw [hS₁] at this;cases this
  have hperm:=hit.1.perm;have hlen:ord.length=es.size:=by have:=hperm.length_eq;simpa using this
  have W:Walks prog w A.in1 I (I::a::JA (fst 0)) [I] es.size (λi v=>∃e,ord[i]?=some e/\v=e.2) (λi h=>VH w h a es ep t/\Jx w I a es ep t ord fst i h):=
    walks_set (A:=A.in1) hh I a es ep t ord fst hIa (λb hb=>(hfoot b hb).2) hlen
  have hS2:h2.get? s.heap.objs.size=some { cls:=.type "list",data:=.seq #[] }:=hk _ _ hS₁;have hall:∀(vs:List Value),vs.length=es.size->(∀(j:Nat) (v:Value),vs[j]?=some v->∃e,ord[j]?=some e/\v=e.2)->vs=ord.map (·.2):=by
    intro vs hl hv;apply List.ext_getElem
    · simp [hl,hlen]
    · intro j hj1 hj2;obtain ⟨e,he,hve⟩:=hv j vs[j] (List.getElem?_eq_getElem hj1);have hj3:j<ord.length:=by simpa using hj2
      rw [List.getElem?_eq_getElem hj3] at he;cases he;rw [hve,List.getElem_map]
  have hints:∀(l:List (Int×Value)),ElemsOf (intKind prog w) l->IntsAre (l.map (·.2)) (l.map λe=>JV e.2):=by
    intro l;induction l with
    | nil=>intro _;exact .nil
    | cons e r ih=>
      intro hl;have hk:=QC hl (List.mem_cons_self (a:=e) (l:=r));obtain ⟨tk,htk⟩:=Value.isInt_shape hk;rw [List.map_cons,List.map_cons];generalize hv:e.2=v at htk;have e1:v=.int (JV v) tk:=by rw [<-hv];rw [<-hv] at htk;exact htk
      rw [hv] at *;rw [e1];exact .cons _ tk (ih hl.tail)
  have key:∀(h3:Heap) (c₁:Nat),VH w h3 a es ep t/\Jx w I a es ep t ord fst 0 h3->(∀b o,s.heap.get? b=some o->h3.get? b=some o)->
      h3.get? s.heap.objs.size=some { cls:=.type "list",data:=.seq #[] c₁ }->codeAny (model prog w) A (.builtin "list.extend.loop" ⟨[.ref s.heap.objs.size,.ref I,.ref s.heap.objs.size],[]⟩)
        (λq s'=>∃(h':Heap) (tk:Nat) (acc':Array Value) (c':Nat),q=.ok (.ret (.ref s.heap.objs.size))/\s'={ s with heap:=h',toks:=tk,drawn:=d }/\
          (∀b o,s.heap.get? b=some o->h'.get? b=some o)/\h'.get? s.heap.objs.size=some { cls:=.type "list",dict:=none,data:=.seq acc' c',slots:=#[] }/\acc'.toList=ord.map (·.2)) { s with heap:=h3,drawn:=d }:=by
    intro h3 c₁ hst hkk hS3;refine codeAny_extend_loopS W.toS hn s.heap.objs.size hfS _ es.size 0 _ #[] c₁ rfl (Nat.zero_le _) hst hS3 (ItemsOf.nil _) λs' acc' c' hm hS' hacc=>?_;refine ⟨s'.heap,s'.toks,acc',c',rfl,Moved.eq_with hm,λb o e=>?_,hS',hall _ (by rw [Array.length_toList];exact hacc.1) λj v hv=>hacc.2 j v (by rw [<-Array.getElem?_toList];exact hv)⟩;refine hm.heap b o (λhmem=>?_) (hkk b o e);rcases List.mem_cons.mp hmem with q | hmem
    · exact absurd (Heap.lt_size e) (by rw [q];exact Nat.lt_irrefl _)
    · have q:=List.mem_singleton.mp hmem;subst q;have e2:(s.heap.push { cls:=.type "list",data:=.seq ([]:List Value).toArray }).get? b=some o:=Heap.get?_push_of_some _ e;rw [hI] at e2;cases e2
  have leave:∀(q:Result) (s':Shared),(∃(h':Heap) (tk:Nat) (acc':Array Value) (c':Nat),q=.ok (.ret (.ref s.heap.objs.size))/\s'={ s with heap:=h',toks:=tk,drawn:=d }/\
          (∀b o,s.heap.get? b=some o->h'.get? b=some o)/\h'.get? s.heap.objs.size=some { cls:=.type "list",dict:=none,data:=.seq acc' c',slots:=#[] }/\acc'.toList=ord.map (·.2))->
      ∃(h':Heap) (tk:Nat) (acc':Array Value) (c':Nat),q=.ok (.ret (.ref s.heap.objs.size))/\s'={ s with heap:=h',toks:=tk,drawn:=d }/\
          h'.get? s.heap.objs.size=some { cls:=.type "list",dict:=none,data:=.seq acc' c',slots:=#[] }/\Q acc'.toList s':=by
    rintro q s' ⟨h',tk,acc',c',rfl,rfl,hkk,hS',hacc⟩;refine ⟨h',tk,acc',c',rfl,rfl,hS',?_⟩;rw [hacc];have hp2:List.Perm (ord.map λe=>JV e.2) (Yk es):=hperm.map _;exact h h' tk d (ord.map λe=>JV e.2) _ hkk (hints ord (hel.perm hperm)) (hp2.nodup_iff.mpr hnd) (λk=>hp2.mem_iff.trans (hmem k).symm)
  have endq:∀(q:Result) (s':Shared),(∃(h':Heap) (tk:Nat) (acc':Array Value) (c':Nat),q=(.ok (.ret (.ref s.heap.objs.size)):Result)/\s'={ s with heap:=h',toks:=tk,drawn:=d }/\
          h'.get? s.heap.objs.size=some { cls:=.type "list",dict:=none,data:=.seq acc' c',slots:=#[] }/\Q acc'.toList s')->
      ∃acc' c',q=(.ok (.ret (.ref s.heap.objs.size)):Result)/\s'.heap.get? s.heap.objs.size=some { cls:=.type "list",dict:=none,data:=.seq acc' c',slots:=#[] }/\Q acc'.toList s':=by
    rintro q s' ⟨h',tk,acc',c',rfl,rfl,hS',hq⟩;exact ⟨acc',c',rfl,hS',hq⟩
  refine wpAny_bind (wpAny_holding (hint_set ⟨_,hk _ _ ho1,rfl⟩ ?_));refine wpAny_ite_split (λ_=>?_) (λ_=>?_)
  · refine wpAny_bind (wpAny_rule ?_);refine wpAny_bind ?_;show wpAny _ _ (updateSeq s.heap.objs.size (·.push .none) >>= λ_=>updateSeq s.heap.objs.size (·.pop)) _ _ _;refine wpAny_bind (wpAny_updateSeq (s:={ s with heap:=h2,drawn:=d }) hS2 rfl ?_);have hS3:=Heap.get?_update_self (Obj.mapSeq (·.push Value.none)) hS2 rfl;refine wpAny_updateSeq (hz:=by seq_fits) hS3 rfl ?_;have hS4:=Heap.get?_update_self (Obj.mapSeq (·.pop)) hS3 rfl;have oth:∀b o,b≠s.heap.objs.size->h2.get? b=some o->(((h2.update s.heap.objs.size (Obj.mapSeq (·.push Value.none))).update s.heap.objs.size (Obj.mapSeq (·.pop)))).get? b=some o:=
      λb o hb e=>(Heap.get?_update_other _ _ (Ne.symm hb)).trans ((Heap.get?_update_other _ _ (Ne.symm hb)).trans e)
    refine wpAny_pure ⟨plainId_quiet PySem.F.plain_extend_loop _,codeAny_mono (key _ _ ?_ ?_ hS4) λq s' x=>?_⟩
    · refine W.frame 0 _ _ ⟨⟨hk _ _ ho1,hf,ok,hled⟩,hit⟩ λb hb o e=>oth b o (λq=>hfS (q▸hb)) e
    · exact λb o e=>oth b o (Nat.ne_of_lt (Heap.lt_size e)) (hk b o (Heap.get?_push_of_some _ e))
    · obtain ⟨acc',c',rfl,hS',hq⟩:=endq _ _ (leave _ _ x);show wpAny _ A (load s.heap.objs.size >>= _) _ _ _;refine wpAny_bind (wpAny_load hS' ?_);exact wpAny_pure hq
  · refine wpAny_pure ⟨plainId_quiet PySem.F.plain_extend_loop _,codeAny_mono (key h2 0 ⟨⟨hk _ _ ho1,hf,ok,hled⟩,hit⟩ (λb o e=>hk b o (Heap.get?_push_of_some _ e)) hS2) λq s' x=>?_⟩;obtain ⟨acc',c',rfl,hS',hq⟩:=endq _ _ (leave _ _ x);show wpAny _ A (load s.heap.objs.size >>= _) _ _ _;refine wpAny_bind (wpAny_load hS' ?_);exact wpAny_pure hq
end
set_option tactic.hygienic false
section
variable {S:Sys} {F:Frm} {n:Nat×Nat} {ρ:Rho} {σ:MH} {Q:V->MH->Prop} {X:MH->Prop}
theorem YE {k:Nat} (h:k<=1000000):k<=sizeLine:=Nat.le_trans h (by decide)
theorem Z5 {a:Addr} {ms:List V} {v:V} (ha:σ a=some (.list ms)) (hz:ms.length<=1000000) (q:Q .none (σ.set a (.list (ms++[v])))):ZN S F n (.builtin "list.append") [.ref a,v] ρ σ Q X:=by
  intro us A s hR x r;obtain ⟨u,_,rfl,r1,u2,_,rfl,r2,rfl⟩:=r;obtain rfl:=Zo r1;obtain ⟨us,k,o,rs⟩:=x.g.list ha;have hl:=rs.length;refine append_at o (λh' hs ho'=>?_) (YE (by simpa [<-hl] using hz));obtain ⟨y1,x1⟩:=x.upd ha s.toks hs (mo':=.list (ms++[v])) λvk=>by
    exact ⟨us++[u2],k+1,by simpa using ho',(rs.snoc r2).keep vk⟩
  exact ⟨.none,_,y1,x1,by first | exact rfl | exact ⟨_,rfl⟩,q⟩
theorem p_pop {a:Addr} {ms:List V} {v:V} (ha:σ a=some (.list (ms++[v]))) (hz:ms.length<=1000000) (q:Q v (σ.set a (.list ms))):ZN S F n (.builtin "list.pop") [.ref a] ρ σ Q X:=by
  intro us A s hR x r;obtain ⟨u,_,rfl,r1,rfl⟩:=r;obtain rfl:=Zo r1;obtain ⟨us,k,o,rs⟩:=x.g.list ha;have hl:=rs.length;simp only [List.length_append,List.length_singleton] at hl;obtain ⟨uv,huv,ruv⟩:=rs.get ms.length (m:=v) (by simp);have hsz:us.toArray.size-1=ms.length:=by simp;lia
  have hzz:us.toArray.size<=sizeLine:=Nat.le_trans (by simp;lia:us.toArray.size<=1000001) (by decide);refine call_meets PySem.F.slot_list_pop ⟨_,o,rfl⟩ PySem.F.entry_list_pop (PySem.F.args_list_pop_1 _) (MeetsSeq.list_pop_last a us.toArray k uv (by rw [hsz];simpa using huv) hzz) ⟨o,?_⟩;have e:Obj.mapSeq (λxs=>xs.eraseIdxIfInBounds (us.toArray.size-1)) (PySem.W.listOf us.toArray k)=PySem.W.listOf (us.take ms.length).toArray (k+1)\/Obj.mapSeq (λxs=>xs.eraseIdxIfInBounds (us.toArray.size-1)) (PySem.W.listOf us.toArray k)=PySem.W.listOf (us.take ms.length).toArray k:=by
    have e1:us.toArray.eraseIdxIfInBounds ms.length=(us.take ms.length).toArray:=by
      rw [Array.eraseIdxIfInBounds_eq,dif_pos (by simp;lia)];rw [List.eraseIdx_toArray];congr 1;rw [List.eraseIdx_eq_take_drop_succ,List.drop_eq_nil_of_le (by lia),List.append_nil]
    rw [hsz];simp only [Obj.mapSeq,PySem.W.listOf,e1];(set_option tactic.hygienic true in split) <;> simp
  obtain ⟨y1,x1⟩:=x.upd ha s.toks (h':=s.heap.update a (Obj.mapSeq λxs=>xs.eraseIdxIfInBounds (us.toArray.size-1))) (Heap.SameBut.update ..) (mo':=.list ms) λvk=>by
    simp only [or0,or1,or2,or3,or4];have rs2:Zc s.heap ms (us.take ms.length):=by simpa using rs.take ms.length
    rcases e with e | e
    · exact ⟨us.take ms.length,k+1,by rw [Heap.get?_update_self _ o (by rw [e];rfl),e],rs2.keep vk⟩
    · exact ⟨us.take ms.length,k,by rw [Heap.get?_update_self _ o (by rw [e];rfl),e],rs2.keep vk⟩
  exact ⟨v,_,y1,x1,ruv.keep (x.vkeep (y1.from_no)),q⟩
theorem W2 {a:Addr} {ds:List Dt} {d:Dt} {ms:List V} (oa:d.ok=true) (ob:ds.all Dt.ok=true) (ha:σ a=some (.list ms)) (e:ms=ds.map Dt.v) (hd:d∈ds) (hz:ms.length<=1000000) (q:Q (.int (ds.idxOf d:Nat)) σ) :
    ZN S F n (.builtin "list.index") [.ref a,d.v] ρ σ Q X:=by
  subst e;intro us A s hR x r;obtain ⟨u,_,rfl,r1,u2,_,rfl,r2,rfl⟩:=r;obtain rfl:=Zo r1;obtain ⟨us,k,o,rs⟩:=x.g.list ha;have hu:=Yd hR;have hl:=rs.length;simp only [List.length_map] at hl hz;have hj:ds.idxOf d<ds.length:=List.idxOf_lt_length_iff.mpr hd;have at_:∀(j:Nat) (h:j<us.length),Zv s.heap (ds[j]'(by lia)).v us[j]:=λj h=>by
    obtain ⟨w,hw,rw_⟩:=rs.get j (m:=(ds[j]'(by lia)).v) (by simp [show j<ds.length by lia]);rw [List.getElem?_eq_getElem h] at hw;cases hw;exact rw_
  have okd:∀(j:Nat) (h:j<ds.length),(ds[j]).ok=true:=λj h=>List.all_eq_true.mp ob _ (List.getElem_mem h);let e:Value->Bool:=λy=>open Classical in decide (∃j,∃h:j<us.length,us[j]=y/\ds[j]'(by lia)=d)
  have key:∀(j:Nat) (h:j<us.length),ds[j]'(by lia)=d\/ds[j]'(by lia)≠d:=λj h=>Classical.em _;-- by its value alone: what an item is told by its reading
  have same:∀(i j:Nat) (hi:i<us.length) (hj:j<us.length),us[i]=us[j]->ds[i]'(by lia)=ds[j]'(by lia):=by
    intro i j hi hj hij;have r1:=XM (at_ i hi);have r2:=XM (at_ j hj);rw [hij] at r1;have:=SeqAt.Reads.unique _ _ _ _ _ (Dt.lay (okd i (by lia))) r1 r2;have h2:=Dt.eqv (ds[i]'(by lia)) (ds[j]'(by lia));rw [this] at h2;have h3:=Dt.eqv (ds[j]'(by lia)) (ds[j]'(by lia));rw [h2] at h3;simpa using h3
  have eat:∀(j:Nat) (h:j<us.length),e us[j]=decide (ds[j]'(by lia)=d):=by
    intro j h;show decide _=decide _;rw [decide_eq_decide];constructor
    · rintro ⟨i,hi,h1,h2⟩;rw [<-same i j hi h h1];exact h2
    · intro h1;exact ⟨j,h,rfl,h1⟩
  refine call_meets PySem.F.slot_list_index ⟨_,o,rfl⟩ PySem.F.entry_list_index (PySem.F.args_list_index_2 _ _)
    (SeqAt.list_indexAt a us.toArray k none #[] u2 e (ds.idxOf d) (by simp;lia) (by lia) ?_ ?_) ⟨o,?_,⟨_,σ,Ze.toks ..,x.toks _,by first | exact rfl | exact ⟨_,rfl⟩,q⟩⟩
  · have:=eat (ds.idxOf d) (by lia);simp only [List.getElem_toArray];rw [this];simp
  · intro j hjs hlt;have hjs':j<us.length:=by simpa using hjs
    simp only [List.getElem_toArray];rw [eat j hjs'];have:=List.not_of_lt_findIdx (p:=(·==d)) (xs:=ds) (i:=j) hlt;simpa using this
  · intro y hy;have hy':y∈us:=by simpa using hy
    obtain ⟨j,hj2,rfl⟩:=List.getElem_of_mem hy';rw [eat j hj2];exact eqAt_dt (okd j (by lia)) oa (by show A.units+1+20<cLine;lia) (at_ j hj2) r2
end
set_option tactic.hygienic false
section
variable {S:Sys} {F:Frm} {n:Nat×Nat} {ρ:Rho} {σ:MH} {Q:V->MH->Prop} {X:MH->Prop}
theorem St.grow {s:Shared} {h':Heap} {t:Nat} {d:Drawn} (x:St S F ρ σ s) (hk:∀b o,s.heap.get? b=some o->h'.get? b=some o) :
    Ze ZI σ s σ { s with heap:=h',toks:=t,drawn:=d }/\St S F ρ σ { s with heap:=h',toks:=t,drawn:=d }:=by
  have st:Ze ZI σ s σ { s with heap:=h',toks:=t,drawn:=d }:=⟨λb o e _ _=>.inl (hk b o e),λb o e=>⟨o,hk b o e⟩,λ_ q=>.inl q,rfl⟩;exact ⟨st,x.step st ⟨λb o e=>hk b o (x.g.base b o e),λb mo e=>⟨(x.g.objs b mo e).1,(x.g.objs b mo e).2.keep (λo e'=>hk b o e') λb o e _=>hk b o e⟩,x.g.gens⟩⟩
theorem St.grow1 {s:Shared} {h':Heap} {t:Nat} {d:Drawn} {D:Addr} {mo:Zd} (x:St S F ρ σ s) (hk:∀b o,s.heap.get? b=some o->h'.get? b=some o) (hD:s.heap.get? D=none) (r:XB S h' D mo) :
    Ze ZI σ s (σ.set D mo) { s with heap:=h',toks:=t,drawn:=d }/\St S F ρ (σ.set D mo) { s with heap:=h',toks:=t,drawn:=d }:=by
  have hnone:∀b,σ b≠none->b≠D:=λb h q=>by
    subst q;cases e:σ b with
    | none=>exact h e
    | some m=>obtain ⟨o,ho⟩:=(x.g.objs b m e).2.at;rw [hD] at ho;cases ho
  have st:Ze ZI σ s (σ.set D mo) { s with heap:=h',toks:=t,drawn:=d }:=
    ⟨λb o e _ _=>.inl (hk b o e),λb o e=>⟨o,hk b o e⟩,λb h=>by
      by_cases q:b=D
      · subst q;exact .inr hD
      · rw [MH.set_ne q] at h;exact .inl h,rfl⟩
  refine ⟨st,x.step st ⟨λb o e=>hk b o (x.g.base b o e),λb m e=>?_,x.g.gens⟩⟩;by_cases q:b=D
  · subst q;rw [MH.set_same] at e;cases e;exact ⟨x.g.base_none hD,r⟩
  · rw [MH.set_ne q] at e;exact ⟨(x.g.objs b m e).1,(x.g.objs b m e).2.keep (λo e'=>hk b o e') λb o e _=>hk b o e⟩
theorem St.none_of {s:Shared} {D:Addr} (x:St S F ρ σ s) (hD:s.heap.get? D=none):σ D=none:=by
  cases e:σ D with
  | none=>rfl
  | some m=>obtain ⟨o,ho⟩:=(x.g.objs D m e).2.at;rw [hD] at ho;cases ho
theorem JJ {h:Heap}:∀{is:List Int} {us:List Value},Zc h (is.map V.int) us->IntsAre us is
  | [],us,r=>by simp only [List.map_nil,vs0,vs1] at r;subst r;exact .nil
  | i::is,us,r=>by
    simp only [List.map_cons,vs0,vs1,vr0,vr1,vr2,vr3,vr4,vr5,vr6,vr7] at r;obtain ⟨u,us',rfl,⟨t,rfl⟩,b⟩:=r;exact .cons i t (JJ b)
theorem Ud {h:Heap}:∀{is:List Int} {us:List Value},IntsAre us is->Zc h (is.map V.int) us:=λr=>by
  induction r with
  | nil=>exact Zc.nil
  | cons i t r ih=>exact Zc.cons (by first | exact rfl | exact ⟨_,rfl⟩) ih
theorem X9 {a:Addr} {ms:List V} (ha:σ a=some (.list ms)) (hz:ms.length<=1000000) (q:Q (.tup ms) σ):ZN S F n (.type "tuple") [.ref a] ρ σ Q X:=by
  intro us A s hR x r;obtain ⟨u,_,rfl,r1,rfl⟩:=r;obtain rfl:=Zo r1;obtain ⟨us,k,o,rs⟩:=x.g.list ha;have hl:=rs.length;refine call_tuple_list (items:=us.toArray) ⟨_,o,rfl,_,rfl⟩ (λh' hk=>?_) (YE (by simp;lia));obtain ⟨y1,x1⟩:=x.grow (h':=h'.push { cls:=.type "tuple",data:=.seq us.toArray }) (t:=s.toks) (d:=s.drawn) (λb o e=>Heap.get?_push_of_some _ (hk b o e));refine ⟨.tup ms,σ,y1,x1,?_,q⟩;simp only [vr0,vr1,vr2,vr3,vr4,vr5,vr6,vr7];exact ⟨_,us.toArray,rfl,⟨_,Heap.get?_push_size _ rfl,rfl,_,rfl⟩,by simpa using rs.over x y1⟩
theorem p_tupleT {ms:List V} (q:Q (.tup ms) σ):ZN S F n (.type "tuple") [.tup ms] ρ σ Q X:=by
  intro us A s hR x r;obtain ⟨u,_,rfl,r1,rfl⟩:=r;have r1':=r1;obtain ⟨t,items,rfl,hT,rs⟩:=r1;exact call_tuple_tup hT ⟨.tup ms,σ,Ze.refl ..,x,r1',q⟩
theorem p_listL {a:Addr} {ms:List V} (ha:σ a=some (.list ms)) (hz:ms.length<=1000000) (q:∀D,σ D=none->Q (.ref D) (σ.set D (.list ms))):ZN S F n (.type "list") [.ref a] ρ σ Q X:=by
  intro us A s hR x r;obtain ⟨u,_,rfl,r1,rfl⟩:=r;obtain rfl:=Zo r1;obtain ⟨us,k,o,rs⟩:=x.g.list ha;have hl:=rs.length;refine call_list_seq a (T:="list") (items:=us.toArray) (.inl rfl) o rfl rfl (λh' c' hk ho'=>?_) (YE (by simp;lia));obtain ⟨y1,x1⟩:=x.grow1 (t:=s.toks) (d:=s.drawn) (mo:=.list ms) hk (Zf _) (by
    exact ⟨us,c',ho',rs.keep λb o e _=>hk b o e⟩)
  exact ⟨.ref _,_,y1,x1,by first | exact rfl | exact ⟨_,rfl⟩,q _ (x.none_of (Zf _))⟩
theorem Y2 {b:Int} (q:Q (.range 0 b) σ):ZN S F n (.type "range") [.int b] ρ σ Q X:=by
  intro us A s hR x r;obtain ⟨u,_,rfl,⟨t,rfl⟩,rfl⟩:=r;refine call_range_1 ?_;obtain ⟨y1,x1⟩:=x.push { cls:=.type "range",data:=.fields #[.int 0 s.toks,.int b t,.int 1 (s.toks+1)] } (s.toks+1+1);refine ⟨.range 0 b,σ,y1,x1,?_,q⟩;simp only [vr0,vr1,vr2,vr3,vr4,vr5,vr6,vr7];exact ⟨_,_,_,_,rfl,Heap.get?_push_size _ rfl⟩
theorem YR:∀(x:Int) (k:Nat),YC x k=((List.range k).map λ(i:Nat)=>x+i).map V.int
  | x,0=>rfl
  | x,k+1=>by
    rw [YC,YR (x+1) k,List.range_succ_eq_map];simp only [List.map_cons,List.map_map];refine List.cons_eq_cons.mpr ⟨by simp,?_⟩;apply List.map_congr_left;intro i _;simp only [Function.comp];congr 1;push_cast;lia
theorem U0 {b:Nat} (hb:b<=1000000) (q:∀D,σ D=none->Q (.ref D) (σ.set D (.list (YC 0 b)))):ZN S F n (.type "list") [.range 0 b] ρ σ Q X:=by
  intro us A s hR x r;obtain ⟨u,_,rfl,⟨r0,t1,t2,t3,rfl,hr⟩,rfl⟩:=r;have hsz:Builtin.Range.rangeSize 0 (b:Int) 1=(b:Nat):=by
    unfold Builtin.Range.rangeSize;rw [if_pos (by decide)];(set_option tactic.hygienic true in split) <;> lia
  refine call_list_range (n:=b) hR.1 hr ?_ hsz (by lia) (λh' tk acc c' hk ho' hacc=>?_)
  · unfold Builtin.Range.small;rw [hsz];unfold Builtin.Range.rangeFitsLong;simp only [Bool.and_eq_true,decide_eq_true_eq,Bool.or_eq_true];refine ⟨⟨⟨⟨⟨by lia,by lia⟩,by lia,by lia⟩,by lia,by lia⟩,by lia,by lia⟩,.inr ?_⟩;simp only [show ((1:Int)>0)=True from eq_true (by decide),if_true,Bool.and_eq_true,decide_eq_true_eq];lia
  · have hrep:Zc h' (YC 0 b) acc.toList:=by
      rw [YR];have go:∀(k:Nat) (vs:List Value),vs.length=k->(∀(j:Nat) v,vs[j]?=some v->∃t,v=.int (0+(j:Int) * 1) t)->∀m,m<=k->Zc h' (((List.range m).map λ(i:Nat)=>(0:Int)+i).map V.int) (vs.take m):=by
        intro k vs hl hv m;induction m with
        | zero=>intro _;simp [vs0,vs1]
        | succ m ih=>
          intro hm;have hlt:m<vs.length:=by lia
          obtain ⟨t,ht⟩:=hv m _ (List.getElem?_eq_getElem hlt);rw [List.range_succ,List.take_succ_eq_append_getElem hlt];simp only [List.map_append,List.map_cons,List.map_nil];refine (ih (by lia)).append (Zc.cons ?_ Zc.nil);simp only [vr0,vr1,vr2,vr3,vr4,vr5,vr6,vr7];exact ⟨t,by rw [ht];congr 1;lia⟩
      have:=go b acc.toList (by rw [Array.length_toList];exact hacc.1) (λj v hv=>hacc.2 j v (by rw [<-Array.getElem?_toList];exact hv)) b (Nat.le_refl _);rwa [List.take_of_length_le (by rw [Array.length_toList];exact Nat.le_of_eq hacc.1)] at this
    obtain ⟨y1,x1⟩:=x.grow1 (t:=tk) (d:=s.drawn) (mo:=.list (YC 0 b)) hk (Zf _) (by
      exact ⟨acc.toList,c',by simpa using ho',hrep⟩)
    exact ⟨.ref _,_,y1,x1,by first | exact rfl | exact ⟨_,rfl⟩,q _ (x.none_of (Zf _))⟩
theorem p_abs {a:Int} (q:Q (.int (if a<0 then -a else a)) σ):ZN S F n (.builtin "abs") [.int a] ρ σ Q X:=by
  intro us A s hR x r;obtain ⟨u,_,rfl,⟨t,rfl⟩,rfl⟩:=r;exact call_abs_int λu tk=>⟨_,σ,Ze.toks ..,x.toks _,by first | exact rfl | exact ⟨_,rfl⟩,q⟩
theorem p_max2 {a b:Int} (q:Q (.int (max a b)) σ):ZN S F n (.builtin "max") [.int a,.int b] ρ σ Q X:=by
  intro us A s hR x r;obtain ⟨u,_,rfl,⟨t,rfl⟩,u2,_,rfl,⟨t2,rfl⟩,rfl⟩:=r;refine max_two_ints hR.1 λh' tk hk=>?_;obtain ⟨y1,x1⟩:=x.grow (h':=h') (t:=tk) (d:=s.drawn) hk;refine ⟨.int (max a b),σ,y1,x1,?_,q⟩;simp only [vr0,vr1,vr2,vr3,vr4,vr5,vr6,vr7];by_cases h:b>a
  · rw [if_pos h];exact ⟨t2,by congr 1;lia⟩
  · rw [if_neg h];exact ⟨t,by congr 1;lia⟩
theorem p_min2 {a b:Int} (q:Q (.int (min a b)) σ):ZN S F n (.builtin "min") [.int a,.int b] ρ σ Q X:=by
  intro us A s hR x r;obtain ⟨u,_,rfl,⟨t,rfl⟩,u2,_,rfl,⟨t2,rfl⟩,rfl⟩:=r;refine min_two_ints hR.1 λh' tk hk=>?_;obtain ⟨y1,x1⟩:=x.grow (h':=h') (t:=tk) (d:=s.drawn) hk;refine ⟨.int (min a b),σ,y1,x1,?_,q⟩;simp only [vr0,vr1,vr2,vr3,vr4,vr5,vr6,vr7];by_cases h:b<a
  · rw [if_pos h];exact ⟨t2,by congr 1;lia⟩
  · rw [if_neg h];exact ⟨t,by congr 1;lia⟩
end
set_option tactic.hygienic false
section
variable {S:Sys} {F:Frm} {n:Nat×Nat} {ρ:Rho} {σ:MH} {Q:V->MH->Prop} {X:MH->Prop}
theorem p_sum {a:Addr} {is:List Int} {ms:List V} (ha:σ a=some (.list ms)) (e:ms=is.map V.int) (q:∀k,Q (.int k) σ):ZN S F n (.builtin "sum") [.ref a] ρ σ Q X:=by
  subst e;intro us A s hR x r;obtain ⟨u,_,rfl,r1,rfl⟩:=r;obtain rfl:=Zo r1;obtain ⟨us,k,o,rs⟩:=x.g.list ha;have hi:=JJ rs;refine call_sum_walkG (wpAny_pyIter_list (items:=us.toArray) ⟨_,o,rfl,_,rfl⟩ ?_);have hlt:a<s.heap.objs.size:=Heap.lt_size o;refine ⟨s.heap.objs.size,_,_,_,_,_,λi=>is.getD i 0,rfl,Walks.list (prog:=S.prog) (w:=S.w) (A:=A.in1) hR.1 s.heap.objs.size a (Nat.ne_of_lt hlt) us.toArray,⟨⟨_,Heap.get?_push_size _ rfl,rfl,rfl⟩,⟨_,Heap.get?_push_of_some _ o,rfl,_,rfl⟩⟩,?_,?_,?_⟩
  · intro b hb;simp only [List.mem_cons,List.not_mem_nil,or_false] at hb;show b<(s.heap.push _).objs.size;rw [Heap.size_push];rcases hb with rfl | rfl
    · exact Nat.lt_succ_self _
    · exact Nat.lt_succ_of_lt hlt
  · intro i v hv;exact PyProof.Rows.IntsAre.int_at hi i v (by simpa using hv)
  · intro h' tk t' hk;obtain ⟨y1,x1⟩:=x.grow (h':=h') (t:=tk) (d:=s.drawn) λb o' e=>hk b o' (λhb=>by
      simp only [List.mem_singleton] at hb;subst hb;rw [Zf] at e;cases e) (Heap.get?_push_of_some _ e)
    exact ⟨.int _,σ,y1,x1,by simp only [vr0,vr1,vr2,vr3,vr4,vr5,vr6,vr7];exact ⟨t',rfl⟩,q _⟩
theorem p_maxL {a:Addr} {is:List Int} {ms:List V} (ha:σ a=some (.list ms)) (e:ms=is.map V.int) (hne:0<is.length) (q:∀k∈is,(∀j∈is,j<=k)->Q (.int k) σ):ZN S F n (.builtin "max") [.ref a] ρ σ Q X:=by
  subst e;intro us A s hR x r;obtain ⟨u,_,rfl,r1,rfl⟩:=r;obtain rfl:=Zo r1;obtain ⟨us,k,o,rs⟩:=x.g.list ha;have hi:=JJ rs;have hl:s.heap.IsList a us.toArray:=⟨_,o,rfl,_,rfl⟩;obtain ⟨xs,e⟩:=hi.allInts.items;have hns:is=xs.toList.map (·.1):=by rw [<-hi.numsOf,<-nums_intItems,<-e]
  have hsz:0<xs.size:=by have h3:=hne;rw [hns,List.length_map,Array.length_toList] at h3;exact h3
  rw [e] at hl;refine max_intList hR.1 hl hsz λv h' tk hv hk=>?_;obtain ⟨t,rfl⟩:=intItems_at hv;obtain ⟨h1,h2⟩:=argBest_gt (numAt xs) (xs.size-1);obtain ⟨y1,x1⟩:=x.grow (h':=h') (t:=tk) (d:=s.drawn) hk;refine ⟨.int (numAt xs (argBest (λi j=>decide (numAt xs i>numAt xs j)) (xs.size-1))),σ,y1,x1,by first | exact rfl | exact ⟨_,rfl⟩,q _ ?_ λj hj=>?_⟩
  · rw [hns,numAt_eq];exact getD_mem (by rw [List.length_map,Array.length_toList];lia)
  · rw [hns] at hj;obtain ⟨i,hi',rfl⟩:=mem_getD hj;rw [List.length_map,Array.length_toList] at hi';rw [<-numAt_eq];exact h2 i (by lia)
theorem sorted_by {r:Addr} {A:Around} {E:Value->Shared->Prop} {s:Shared} {P:List Int->Prop} {Q:Value->Shared->Prop}
    (hc:∀(Q':List Value->Shared->Prop),(∀h' tk d ks vs,(∀b o,s.heap.get? b=some o->h'.get? b=some o)->IntsAre vs ks->P ks->Q' vs { s with heap:=h',toks:=tk,drawn:=d })->wpAny S.M A.in1 (collect (.ref r)) Q' E s)
    (hlen:∀ks,P ks->ks.length<64)
    (h:∀h' tk d D ks js us e,(∀b o,s.heap.get? b=some o->h'.get? b=some o)->s.heap.get? D=none->h'.get? D=some (PySem.W.listOf us e)->IntsAre us.toList js->P ks->js.Perm ks->js.Pairwise (·<=·)->Q (.ref D) { s with heap:=h',toks:=tk,drawn:=d }) :
    wpAny S.M A (call (.builtin "sorted") [.ref r]) Q E s:=by
  refine Calls.call_function_entry kind_sorted plain_sorted entry_sorted (args_sorted1 _) ?_;unfold Builtin.«sorted»;refine wpAny_bind (m:=checkCount "sorted" 1 1 _) (wpAny_pure ?_);refine wpAny_bind (hc _ λh' tk d ks vs hk hi hP=>?_);have h64:vs.length<64:=by rw [hi.length];exact hlen ks hP
  refine wpAny_bind (wpAny_newList ?_ (by rw [sizeLine_eq];lia));have hoL:(h'.push (seqObj "list" vs.toArray 0)).get? h'.objs.size=some (seqObj "list" vs.toArray 0):=Heap.get?_push_size _ rfl;refine wpAny_bind (wpAny_holding (wpAny_call_entry PySem.F.slot_list_sort ⟨_,hoL,rfl⟩ entry_list_sort (list_sort_tree hoL hi h64 λout ns' a1 a2 a3=>⟨_,rfl,?_⟩) (args_list_sort _)));refine wpAny_pure ⟨_,rfl,?_⟩;obtain ⟨e,he⟩:=sortedHeap_at (vs:=vs) (out:=out) hoL;have hnone:s.heap.get? h'.objs.size=none:=by
    cases q:s.heap.get? h'.objs.size with
    | none=>rfl
    | some o=>exact absurd (Heap.lt_size (hk _ _ q)) (Nat.lt_irrefl _)
  refine h _ tk d h'.objs.size ks ns' out e (λb o ho=>?_) hnone he a1 hP a2 a3;have hb:=hk b o ho;have hne:b≠h'.objs.size:=Nat.ne_of_lt (Heap.lt_size hb);rw [sortedHeap_old hne (by rw [Heap.size_push];exact Nat.lt_succ_of_lt (Heap.lt_size hb))];exact Heap.get?_push_of_some _ hb
theorem KC {r:Addr} {A:Around} {s:Shared} {P:List Int->Prop} (x:St S F ρ σ s)
    (hc:∀(Q':List Value->Shared->Prop),(∀h' tk d ks vs,(∀b o,s.heap.get? b=some o->h'.get? b=some o)->IntsAre vs ks->P ks->Q' vs { s with heap:=h',toks:=tk,drawn:=d })->wpAny S.M A.in1 (collect (.ref r)) Q' (EX S F X) s)
    (hlen:∀ks,P ks->ks.length<64) (q:∀(D:Addr) (ks js:List Int),σ D=none->P ks->js.Perm ks->js.Pairwise (·<=·)->Q (.ref D) (σ.set D (.list (js.map V.int)))) :
    wpAny S.M A (call (.builtin "sorted") [.ref r]) (PW S F Zv ρ σ s Q) (EX S F X) s:=by
  refine sorted_by hc hlen λh' tk d D ks js us e hk hD hD' hi hP hp hs=>?_;obtain ⟨y1,x1⟩:=x.grow1 (t:=tk) (d:=d) (mo:=.list (js.map V.int)) hk hD (by
    exact ⟨us.toList,e,by simpa using hD',Ud hi⟩)
  exact ⟨.ref D,_,y1,x1,by first | exact rfl | exact ⟨_,rfl⟩,q D ks js (x.none_of hD) hP hp hs⟩
theorem Ko {a:Addr} {is:List Int} (ha:σ a=some (.set is)) (h64:is.length<64) (q:∀(D:Addr) (js:List Int),σ D=none->js.Nodup->(∀k,k∈js ↔ k∈is)->js.Pairwise (·<=·)->Q (.ref D) (σ.set D (.list (js.map V.int)))) :
    ZN S F n (.builtin "sorted") [.ref a] ρ σ Q X:=by
  intro us A s hR x r;obtain ⟨u,_,rfl,r1,rfl⟩:=r;obtain rfl:=Zo r1;have o:=(x.g.objs _ _ ha).2;simp only [or0,or1,or2,or3,or4] at o;refine KC (P:=λks=>ks.Nodup/\∀k,k∈ks ↔ k∈is) x (λQ' hq=>Qb (A:=A.in1) hR.1 o λh' tk d ks vs hk hi hn hm=>hq h' tk d ks vs hk hi ⟨hn,hm⟩)
    (λks hk=>Nat.lt_of_le_of_lt (KY hk.1 λz hz=>(hk.2 z).mp hz) h64) λD ks js hD hk hp hs=>q D js hD (hp.nodup_iff.mpr hk.1) (λk=>hp.mem_iff.trans (hk.2 k)) hs
theorem V4 (ok:SysOk S) {a:Addr} {es:List (Key×V)} {is:List Int} (ha:σ a=some (.dict es)) (he:es.map Prod.fst=is.map Sum.inr) (h64:is.length<64) (q:∀(D:Addr) (js:List Int),σ D=none->js.Perm is->js.Pairwise (·<=·)->Q (.ref D) (σ.set D (.list (js.map V.int)))) :
    ZN S F n (.builtin "sorted") [.ref a] ρ σ Q X:=by
  intro us A s hR x r;obtain ⟨u,_,rfl,r1,rfl⟩:=r;obtain rfl:=Zo r1;obtain ⟨kvs,hd,pr⟩:=x.g.dict ha;obtain ⟨ep,hat⟩:=hd.dictAt;have hk:kvs.map Prod.fst=is.map Sum.inr:=pr.1.trans he;have hl:kvs.length=is.length:=by have:=congrArg List.length hk;simpa using this
  refine KC (P:=λks=>ks=is) x (λQ' hq=>?_) (λks hk=>by rw [hk];exact h64) λD ks js hD hk hp hs=>q D js hD (hk▸hp) hs;refine kdu_collect (A:=A.in1) (kdl_dict (knd:=S.kk) (kvs:=kvs) (ep:=ep) (Xh ok x.g ha)) hR.1 hat (by rw [sizeLine_eq];lia) λh' tk acc hkk hacc=>?_;refine hq h' tk s.drawn is acc.toList hkk ?_ rfl;have go:∀(is:List Int) (kvs:List (Key×Value)) (vs:List Value),kvs.map Prod.fst=is.map Sum.inr->vs.length=kvs.length->(∀(j:Nat) v,vs[j]?=some v->∃k y,kvs[j]?=some (k,y)/\S.kk.is k v=true)->IntsAre vs is:=by
    intro is;induction is with
    | nil=>intro kvs vs h1 h2 h3;simp at h1;subst h1;simp at h2;subst h2;exact .nil
    | cons i is ih=>
      intro kvs vs h1 h2 h3;cases kvs with
      | nil=>simp at h1
      | cons kv kvs=>
        cases vs with
        | nil=>simp at h2
        | cons v vs=>
          simp only [List.map_cons,List.cons.injEq] at h1;obtain ⟨k,y,hk1,hk2⟩:=h3 0 v rfl;simp only [List.getElem?_cons_zero,Option.some.injEq] at hk1;subst hk1;have hkk:k=Sum.inr i:=h1.1;subst hkk;obtain ⟨t,rfl⟩:=Z9 hk2;refine .cons i t (ih kvs vs h1.2 (by simpa using h2) λj v' hv=>h3 (j+1) v' (by simpa using hv))
  exact go is kvs acc.toList hk (by rw [Array.length_toList];exact hacc.1) λj v hv=>hacc.2 j v (by rw [<-Array.getElem?_toList];exact hv)
theorem p_set {a:Addr} {is:List Int} {ms:List V} (ha:σ a=some (.list ms)) (e:ms=is.map V.int) (hz:is.length<4000) (q:∀D,σ D=none->Q (.ref D) (σ.set D (.set is))):ZN S F n (.type "set") [.ref a] ρ σ Q X:=by
  subst e;intro us A s hR x r;obtain ⟨u,_,rfl,r1,rfl⟩:=r;obtain rfl:=Zo r1;obtain ⟨us,k,o,rs⟩:=x.g.list ha;have hi:=JJ rs;have hl:=hi.length;refine Uj hR.1 (items:=us.toArray) ⟨_,o,rfl,_,rfl⟩ (by simpa using hi) (by have:scanBound=4096:=rfl;simp;lia) λh' tk hS hk=>?_;obtain ⟨y1,x1⟩:=x.grow1 (t:=tk) (d:=s.drawn) (mo:=.set is) (λb o' e=>hk b o' (Heap.lt_size e) e) (Zf _) (by simpa only [or0,or1,or2,or3,or4] using hS);exact ⟨.ref _,_,y1,x1,by first | exact rfl | exact ⟨_,rfl⟩,q _ (x.none_of (Zf _))⟩
end
set_option tactic.hygienic false
section
variable {S:Sys} {F:Frm} {n:Nat×Nat} {ρ:Rho} {σ:MH} {Q:V->MH->Prop} {X:MH->Prop}
theorem dset_heap {prog:Program} {w:World} {A:Around} {E:Value->Shared->Prop} {s:Shared} {K:Type} [DecidableEq K] {knd:HeapKind prog w K} {d a:Addr} {xs:List (K×Addr×Value)} {k:K} {dflt:Value} {Q:Value->Shared->Prop} (hu:knd.room A) (hkey:knd.is s.heap k a) (hm:s.heap.DictOfH knd d xs)
    (h1:∀p,atKey xs k=some p->Q p.2 { s with toks:=s.toks+knd.draws k })
    (h2:atKey xs k=none->∀h',h'.DictOfH knd d (xs++[(k,a,dflt)])->Heap.SameBut d s.heap h'->Q dflt { s with heap:=h',toks:=s.toks+knd.draws k }) (hsz:xs.length<=sizeLine) :
    wpAny (model prog w) A (dictSetDefault d (.ref a) dflt) Q E s:=by
  obtain ⟨o,es,ep,ho,hc,hd,he,his,hn⟩:=hm;unfold dictSetDefault;try with_reducible refine wpAny_holding ?_
  refine wpAny_bind (knd.pyHash hu hkey (wpAny_bind (wpAny_dictFind_heap (s:={ s with toks:=s.toks+knd.draws k }) hu hkey ho hd he his hn ?_ ?_)))
  · intro hno;have hnot:k∉xs.map (·.1):=not_mem_keys_of_get hno;refine wpAny_bind (wpAny_rule (wpAny_bind (wpAny_updateDictKeys (hz:=by have e:=size_of_entries he;lia) (s:={ s with toks:=s.toks+knd.draws k }) ho hd (wpAny_pure (h2 (atKey_none_of_get hno) _ ⟨_,_,ep+1,Heap.get?_update_self _ ho (Obj.isFreed_of_dict (Obj.data_mapDictKeys hd _)),
      hc.mapDictKeys _,Obj.data_mapDictKeys hd _,?_,?_,?_⟩ (Heap.SameBut.update ..))))))
    · simp [he,entryOfKey]
    · intro x hx;rcases List.mem_append.mp hx with hx | hx
      · exact knd.keeps (his x hx) ho hd (Heap.SameBut.update ..)
      · simp only [List.mem_singleton] at hx;subst hx;exact knd.keeps hkey ho hd (Heap.SameBut.update ..)
    · rw [List.map_append,List.nodup_append];refine ⟨hn,by simp,?_⟩;intro x hx y hy;simp only [List.map_cons,List.map_nil,List.mem_singleton] at hy;subst hy;exact λe=>hnot (e▸hx)
  · intro j p hj;refine wpAny_bind (wpAny_dictEntries (s:={ s with toks:=s.toks+knd.draws k }) ho hd ?_);rw [entry_at he j,hj];exact wpAny_bind (wpAny_rule (wpAny_pure (h1 p (atKey_of_get hn hj))))
theorem JL (ok:SysOk S) {a:Addr} {es:List (List Key×V)} {k:List Key} {mk v:V} (hk:mk=.tup (k.map V.ofKey)) (ha:σ a=some (.tdict es)) (hz:es.length<=1000000)
    (q1:∀u,Yo es k=some u->Q u σ) (q2:Yo es k=none->Q v (σ.set a (.tdict (es++[(k,v)])))):ZN S F n (.builtin "dict.setdefault") [.ref a,mk,v] ρ σ Q X:=by
  subst hk;intro us A s hR x r;obtain ⟨u,_,rfl,r1,u2,_,rfl,r2,u3,_,rfl,r3,rfl⟩:=r;obtain rfl:=Zo r1;have hu:=Yd hR;obtain ⟨xs,hd,pr⟩:=x.g.tdict ha;obtain ⟨t,rfl,ht⟩:=KO (S:=S) r2;have hl:=pr.length;have e2:xs.length=es.length:=by rw [<-hl];simp [Yr]
  have hz':xs.length<=sizeLine:=YE (by lia);have hmod:=Xh ok x.g ha;have pg:=pr.get (k:=k);rw [<-JB] at pg;have meets:MeetsIn S.prog S.w (Builtin.«dict.setdefault» ⟨[.ref a,.ref t,u3],[]⟩) (λA R s'=>S.tk.room A.in1/\S.tk.is s'.heap k t/\s'.heap.DictOfH S.tk a xs/\
      (∀p,atKey xs k=some p->R (.ok (.ret p.2)) { s' with toks:=s'.toks+S.tk.draws k })/\
      (atKey xs k=none->∀h',h'.DictOfH S.tk a (xs++[(k,t,u3)])->Heap.SameBut a s'.heap h'->R (.ok (.ret u3)) { s' with heap:=h',toks:=s'.toks+S.tk.draws k })):=
    .of_wp λA R s' zz=>by
      obtain ⟨hu,hkey,hm,h1,h2⟩:=zz;unfold Builtin.«dict.setdefault»;refine wpAny_bind ?_;unfold Builtin.Dict.keyAndDefault;refine wpAny_bind (wpAny_notOrdered_dict hm.typeIs ?_);show wpAny _ _ (pure (a,Value.ref t,some u3)) _ _ s';refine wpAny_pure ?_;show wpAny _ _ (if (a==sysModules)=true then _ else (dictSetDefault a (.ref t) u3 >>= _)) _ _ s';rw [if_neg (by rw [hmod];exact Bool.false_ne_true)];exact wpAny_bind (dset_heap hu hkey hm (λp hp=>wpAny_pure ⟨_,rfl,h1 p hp⟩) (λhn h' hm' hs'=>wpAny_pure ⟨_,rfl,h2 hn h' hm' hs'⟩) hz')
  refine call_meetsIn PySem.F.slot_dict_setdefault hd.typeIs PySem.F.entry_dict_setdefault (PySem.F.args_dict_setdefault_3 _ _ _) meets ⟨by show A.in1.units<cLine;show A.units+1<cLine;lia,ht,hd,λp hp=>?_,λhn h' hm hs=>?_⟩
  · cases e:Yo es k with
    | none=>have:=pg.1 e;rw [hp] at this;cases this
    | some m=>
      obtain ⟨w',hw,rw_⟩:=pg.2 m e;rw [hp] at hw;cases hw;exact ⟨m,σ,Ze.toks ..,x.toks _,rw_,q1 m e⟩
  · have hdn:Yo es k=none:=by
      cases e:Yo es k with
      | none=>rfl
      | some m=>obtain ⟨w',hw,_⟩:=pg.2 m e;rw [hn] at hw;cases hw
    obtain ⟨y1,x1⟩:=x.upd ha (s.toks+S.tk.draws k) hs (mo':=.tdict (es++[(k,v)])) λvk=>by
      simp only [or0,or1,or2,or3,or4];have pp:=(pr.keep vk).append (.cons (e:=(k,v)) (kv:=(k,u3)) rfl (r3.keep vk) .nil);have e3:Yr (xs++[(k,t,u3)])=Yr xs++[(k,u3)]:=by simp [Yr]
      rw [<-e3] at pp;exact ⟨_,hm,by rw [<-Kk];exact pp.1,by simpa [Yr,Function.comp_def] using pp.2⟩
    exact ⟨v,_,y1,x1,r3.keep (x.vkeep (y1.from_no)),q2 hdn⟩
theorem X4 {ms ms2:List V} (hz:ms.length+ms2.length<=1000000) (q:Q (.tup (ms++ms2)) σ):Z6 S F n (binaryOp .Add) (.tup ms) (.tup ms2) ρ σ Q X:=by
  intro u1 u2 A s hR x r1 r2;have r1':=r1;have r2':=r2;simp only [vr0,vr1,vr2,vr3,vr4,vr5,vr6,vr7] at r1 r2;obtain ⟨t,items,rfl,⟨⟨cls,dd,data,sl⟩,ho,hc,k1,hd⟩,rs1⟩:=r1;obtain ⟨b,items2,rfl,⟨⟨cls2,dd2,data2,sl2⟩,ho2,hc2,k2,hd2⟩,rs2⟩:=r2;simp only at hc hd hc2 hd2;subst hc hd hc2 hd2;have h1:=rs1.length;have h2:=rs2.length;simp only [Array.length_toList] at h1 h2;by_cases hv:items.isEmpty=true
  · have e1:ms=[]:=by
      have:items.size=0:=by simpa using hv
      exact List.eq_nil_of_length_eq_zero (by lia)
    subst e1;exact concat_meets ⟨_,ho,rfl⟩ ⟨_,ho2,rfl⟩ noFill_tuple_add seq_tuple_add PySem.F.slot_tuple_add PySem.F.entry_tuple_add (PySem.F.args_tuple_add_2 _ _)
      (tuple_addW0 t b items items2 k1 k2 dd dd2 sl sl2 hv) ⟨ho,ho2,⟨_,σ,Ze.refl ..,x,r2',q⟩⟩
  · by_cases hw:items2.isEmpty=true
    · have e1:ms2=[]:=by
        have:items2.size=0:=by simpa using hw
        exact List.eq_nil_of_length_eq_zero (by lia)
      subst e1;rw [List.append_nil] at q;exact concat_meets ⟨_,ho,rfl⟩ ⟨_,ho2,rfl⟩ noFill_tuple_add seq_tuple_add PySem.F.slot_tuple_add PySem.F.entry_tuple_add (PySem.F.args_tuple_add_2 _ _)
        (tuple_addW1 t b items items2 k1 k2 dd dd2 sl sl2 hv hw) ⟨ho,ho2,⟨_,σ,Ze.refl ..,x,r1',q⟩⟩
    · refine concat_meets ⟨_,ho,rfl⟩ ⟨_,ho2,rfl⟩ noFill_tuple_add seq_tuple_add PySem.F.slot_tuple_add PySem.F.entry_tuple_add (PySem.F.args_tuple_add_2 _ _)
        (tuple_addW2 t b items items2 k1 k2 dd dd2 sl sl2 hv hw (YE (by lia))) ⟨ho,ho2,?_⟩
      obtain ⟨y1,x1⟩:=x.push { cls:=.type "tuple",data:=.seq (items++items2) } s.toks;refine ⟨.tup (ms++ms2),σ,y1,x1,?_,q⟩;simp only [vr0,vr1,vr2,vr3,vr4,vr5,vr6,vr7];refine ⟨_,items++items2,rfl,⟨_,Heap.get?_push_size _ rfl,rfl,_,rfl⟩,?_⟩;rw [Array.toList_append];exact (rs1.over x y1).append (rs2.over x y1)
theorem p_addL {a b:Addr} {ms ms2:List V} (ha:σ a=some (.list ms)) (hb:σ b=some (.list ms2)) (hz:ms.length+ms2.length<=1000000) (q:∀D,σ D=none->Q (.ref D) (σ.set D (.list (ms++ms2)))):Z6 S F n (binaryOp .Add) (.ref a) (.ref b) ρ σ Q X:=by
  intro u1 u2 A s hR x r1 r2;obtain rfl:=Zo r1;obtain rfl:=Zo r2;obtain ⟨us1,k1,o1,rs1⟩:=x.g.list ha;obtain ⟨us2,k2,o2,rs2⟩:=x.g.list hb;have h1:=rs1.length;have h2:=rs2.length;refine P.add_list o1 o2 ?_ (YE (by simp;lia));obtain ⟨y1,x1⟩:=x.grow1 (h':=s.heap.push { cls:=.type "list",data:=.seq (us1.toArray++us2.toArray) }) (t:=s.toks) (d:=s.drawn) (mo:=.list (ms++ms2)) (λb o e=>Heap.get?_push_of_some _ e) (Zf _) (by
    refine ⟨us1++us2,0,?_,(rs1.append rs2).keep λb o e _=>Heap.get?_push_of_some _ e⟩;have:us1.toArray++us2.toArray=(us1++us2).toArray:=by simp
    rw [this];exact Heap.get?_push_size _ rfl)
  exact ⟨.ref _,_,y1,x1,by first | exact rfl | exact ⟨_,rfl⟩,q _ (x.none_of (Zf _))⟩
end
set_option tactic.hygienic false
theorem fld_find {S:Sys} {h:Heap} {x:Str}:∀{ns:List Str} {ms:List V} {es:List DictEntry} (i:Nat),Zm S h ns ms es->ns.Nodup->ns[i]?=some x->i<=ms.length->
    es.findIdx? (·.key.isStr x)=(if i<ms.length then some i else none):=λ{ns}=>by
  induction ns with
  | nil=>intro ms es i r hn h1;cases h1
  | cons n ns ih=>
    intro ms es i r hn h1 h2;cases ms with
    | nil=>
      unfold Zm at r;subst r;exact (if_neg (Nat.not_lt_zero _)).symm
    | cons m ms=>
    obtain ⟨e,rest,rfl,⟨t,b⟩,c,d,f⟩:=r;rw [List.findIdx?_cons];cases i with
    | zero=>
      cases h1;have nk:e.key.isStr n=true:=by rw [b];exact beq_self_eq_true n
      rw [nk];exact (if_pos (Nat.succ_pos _)).symm
    | succ i=>
    have h1:ns[i]?=some x:=h1;have hn:=List.nodup_cons.mp hn;have nk:e.key.isStr x=false:=by rw [b];exact beq_eq_false_iff_ne.mpr λe=>hn.1 (e▸List.mem_of_getElem? h1)
    rw [nk,ih i f hn.2 h1 (Nat.le_of_succ_le_succ h2)];by_cases q:i<ms.length
    · rw [if_pos q];exact (if_pos (Nat.succ_lt_succ q)).symm
    · rw [if_neg q];exact (if_neg λr=>q (Nat.lt_of_succ_lt_succ r)).symm
theorem fld_set {S:Sys} {h:Heap} {v:V} {u:Value} (rv:Zv h v u):∀{ns:List Str} {ms:List V} {es:List DictEntry} (i:Nat),Zm S h ns ms es->Zm S h ns (ms.set i v) (es.modify i λe=>{ e with val:=u }):=λ{ns ms}=>by
  induction ms generalizing ns with
  | nil=>intro es i r;unfold Zm at r;subst r;cases i <;> (unfold Zm;rfl)
  | cons m ms ih=>
    intro es i r;cases ns with
    | nil=>exact absurd r (by unfold Zm;exact id)
    | cons n ns=>
    obtain ⟨e,rest,rfl,b,c,d,f⟩:=r;cases i with
    | zero=>exact ⟨_,rest,rfl,b,c,rv,f⟩
    | succ i=>exact ⟨_,_,rfl,b,c,d,ih i f⟩
theorem fld_push {S:Sys} {h:Heap} {x:Str} {t:Tok} {v:V} {u:Value} (rv:Zv h v u):∀{ns:List Str} {ms:List V} {es:List DictEntry},Zm S h ns ms es->ns[ms.length]?=some x->
    Zm S h ns (ms++[v]) (es++[⟨PyData.keyHash S.w.params x,.str x t,u⟩]):=λ{ns}=>by
  induction ns with
  | nil=>
    intro ms es r hx;cases ms with
    | nil=>simp at hx
    | cons _ _=>simp [Zm] at r
  | cons n ns ih=>
   intro ms es r hx;cases ms with
   | nil=>
    unfold Zm at r;subst r;simp only [List.length_nil,List.getElem?_cons_zero,Option.some.injEq] at hx;subst hx;simp only [List.nil_append,Zm];exact ⟨_,[],rfl,⟨t,rfl⟩,rfl,rv,rfl⟩
   | cons m ms=>
    obtain ⟨e,rest,rfl,b,c,d,f⟩:=r;simp only [List.length_cons,List.getElem?_cons_succ] at hx;simp only [List.cons_append,Zm];exact ⟨_,_,rfl,b,c,d,ih f hx⟩
theorem VA {S:Sys} {h:Heap}:∀{ns:List Str} {ms:List V} {es:List DictEntry},Zm S h ns ms es->es.length=ms.length
  | ns,[],es,r=>by unfold Zm at r;subst r;rfl
  | [],m::ms,es,r=>by simp [Zm] at r
  | n::ns,m::ms,es,r=>by
    obtain ⟨e,rest,rfl,b,c,d,f⟩:=r;simp [VA f]
noncomputable def QX (ms:List V) (i:Nat) (v:V):List V:=if i<ms.length then ms.set i v else ms++[v]
noncomputable def putOk (K:Frag) (C:Addr) (x:Str):Bool:=
  findIn K (.ref C) "__setattr__"==some (some (.builtin "object.__setattr__"))&&plainOver K C&&takerIn K C x==some none&&(clsIn K C).any (·.hasDict)
section
variable {S:Sys} {F:Frm} {n:Nat×Nat} {ρ:Rho} {σ:MH} {X:MH->Prop}
theorem osa_raw {prog:Program} {w:World} {A:Around} {K:Frag} {C x dx:Addr} {s:Shared} {R:Result->Shared->Prop} {name:Str} {tk:Tok} {v:Value} {es es':List DictEntry} {k k':Nat} (X:K.In s.heap)
    (I:InstAt s.heap x (instObj C dx) C (some (dictOf es k))) (hdx:s.heap.get? dx=some (dictOf es k)) (hp:plainOver K C=true) (ht:takerIn K C name=some none) (hh:(clsIn K C).any (·.hasDict)=true)
    (hnr:es.any (·.refKey)=false) (e:Obj.putName name (PyData.keyHash w.params name) (.str name s.toks) v (dictOf es k)=dictOf es' k') (hz:es'.length<=1000)
    (h:∀h',Heap.SameBut dx s.heap h'->h'.get? dx=some (dictOf es' k')->R (.ok (.ret .none)) { s with heap:=h',toks:=s.toks+1 }) :
    codeAny (model prog w) A (.call (.builtin "object.__setattr__") ⟨[.ref x,.str name tk,v],[]⟩) R s:=by
  refine osa_open X I hp ht λb=>?_;obtain ⟨cd,hc,hd'⟩:=any_some hh;have D':(s.heap.update dx (Obj.putName name (PyData.keyHash w.params name) (.str name s.toks) v)).get? dx=some (dictOf es' k'):=by
    rw [Heap.get?_update_self _ hdx (by rw [e];rfl),e]
  obtain ⟨hx,hcl,hn,-⟩:=I;refine wpAny_bind (wpAny_pure (wpAny_bind (wpAny_bind (wpAny_loadPart hx (wpAny_bind ((looks_clsIn X hc).here ?_))))));rw [hd'];refine wpAny_pure (a:=some dx) (wpAny_bind (wpAny_pure (wpAny_bind ?_)));unfold nsSet;refine wpAny_bind (wpAny_bind (wpAny_askSetting (wpAny_pure (wpAny_bind (wpAny_mkText (wpAny_bind (wpAny_loadPart hdx ?_)))))));dsimp only;have c:(!es.toArray.any (·.key.isStr name)&&es.toArray.any (·.refKey))=false:=by
    have c2:es.toArray.any (λe=>e.refKey)=false:=by rw [<-Array.any_toList];exact hnr
    rw [c2,Bool.and_false]
  rw [aRefKeyMayBeTheName_at,c];refine wpAny_updatePart hdx ?_;refine wpAny_bind (wpAny_lookBehind D' (pastItsLine_dict (by rw [List.size_toArray,sizeLine_eq];lia)) ?_);exact wpAny_pure (h _ (Heap.SameBut.update ..) D')
theorem sAttr {Q:MF->Rho->MH->Prop} (ok:SysOk S) {o value:Expr} {x:Str} {pos' pos:Pos}
    (h:WE S F n (eval value F.env) ρ σ (λmv σ1=>WE S F n (eval o F.env) ρ σ1 (λmo σ2=>∃(C d:Addr) (ms:List V) (i:Nat),mo=.inst C d/\σ2 d=some (.flds C ms)/\putOk S.K C x=true/\(S.flds C).Nodup/\(S.flds C)[i]?=some x/\i<=ms.length/\ms.length<=100/\
      Q .next ρ (σ2.set d (.flds C (QX ms i mv)))) X) X)
    (hs:swapsWith value (some (.Attribute o x pos')) pos.line F.env=pure false):WS S F n (exec (.Assign [.Attribute o x pos'] value pos) F.env) ρ σ Q X:=by
  intro A s hR y;refine plainObj_wpAny_Assign_Attribute (wpAny_mono (h A s hR y) ?_ λ_ _ z=>z) hs;rintro uv s1 ⟨mv,σ1,y1,x1,r1,q1⟩;refine wpAny_mono (q1 A s1 hR x1) ?_ λ_ _ z=>z;rintro uo s2 ⟨mo,σ2,y2,x2,r2,C,d,ms,i,rfl,hd,hp,hn,hi,hile,hz,q⟩;have rv:=r1.over x1 y2;have od:=(x2.g.objs _ _ hd).2;obtain ⟨es,k,hdx,fe⟩:=od;obtain ⟨x0,rfl,hx0⟩:=r2;have I:PySem.W.InstAt s2.heap x0 (instObj C d) C (some (dictOf es k)):=⟨hx0,rfl,rfl,hdx⟩;unfold putOk at hp;simp only [Bool.and_eq_true,beq_iff_eq] at hp;obtain ⟨⟨⟨p1,p2⟩,p3⟩,p4⟩:=hp;have hl:=VA fe;have hfind:=fld_find i fe hn hi hile;have eo:∃es' k',(∀h',ZJ s2.heap h'->Zm S h' (S.flds C) (QX ms i mv) es')/\es'.length<=1000/\Obj.putName x (PyData.keyHash S.w.params x) (.str x (s2.toks+1)) uv (dictOf es k)=dictOf es' k':=by
    rw [Obj.putName_eq];by_cases hlt:i<ms.length
    · rw [if_pos hlt] at hfind;refine ⟨es.modify i λe=>{ e with val:=uv },k,λh' vk=>?_,by rw [List.length_modify];lia,?_⟩
      · unfold QX;rw [if_pos hlt];exact fld_set (rv.keep vk) i (Y4 vk fe)
      · simp [Obj.putNameByArray,dictOf,hfind]
    · rw [if_neg hlt] at hfind;have hie:i=ms.length:=by lia
      subst hie;refine ⟨es++[⟨PyData.keyHash S.w.params x,.str x (s2.toks+1),uv⟩],k+1,λh' vk=>?_,by simp;lia,?_⟩
      · unfold QX;rw [if_neg (Nat.lt_irrefl _)];exact fld_push (rv.keep vk) (Y4 vk fe) hi
      · simp [Obj.putNameByArray,dictOf,hfind]
  obtain ⟨es',k',hfe,hz',he⟩:=eo;refine set_plain (x2.g.inK ok) I p1 (osa_raw (s:={ s2 with toks:=s2.toks+1 }) (x2.g.inK ok) I hdx p2 p3 p4 (Vv fe) he hz' λh' hsb hd'=>?_);obtain ⟨y3,x3⟩:=x2.upd hd (s2.toks+1+1) hsb (mo':=.flds C (QX ms i mv)) λvk=>by
    exact ⟨es',k',hd',hfe _ vk⟩
  exact ⟨.next,ρ,_,(y1.trans (y2.trans y3)).from_no,x3,rfl,q⟩
end
set_option tactic.hygienic false
theorem KL.under {k j:Nat} {A:Around} (h:KL (k+1,j) A) (C:Addr) (rest:List Value):KL (k,0) (A.under (.builtin "type.__call__" ⟨.ref C::rest,[]⟩)):=by
  obtain ⟨a,b,c,⟨fr,d⟩,⟨gs,e⟩⟩:=h;have hu:(Code.builtin "type.__call__" ⟨.ref C::rest,[]⟩).cUnits=1:=rfl;refine ⟨a,?_,?_,?_,?_⟩
  · show A.depth+1+k<1000;simp only at b;lia
  · show A.units+(Code.builtin "type.__call__" ⟨.ref C::rest,[]⟩).cUnits+40 * k+0+70<9900;rw [hu];simp only at c;lia
  · refine ⟨_,show pushEnvs (Code.builtin "type.__call__" ⟨.ref C::rest,[]⟩).envs A.frames=some ((Code.builtin "type.__call__" ⟨.ref C::rest,[]⟩).envs++fr) from ?_⟩;rw [pushEnvs_eq,d];rfl
  · refine ⟨_,show pushGuards (Code.builtin "type.__call__" ⟨.ref C::rest,[]⟩).guards A.guards=some ((Code.builtin "type.__call__" ⟨.ref C::rest,[]⟩).guards++gs) from ?_⟩;rw [pushGuards_eq,e];rfl
noncomputable def V5 (K:Frag) (C fI:Addr):Bool:=makesIn K C&&findIn K (.ref C) "__init__"==some (some (.ref fI))&&typeIn K (.ref fI)==some (.type "function")&&keepIn K (.ref C)
section
variable {S:Sys} {F:Frm} {n:Nat×Nat} {ρ:Rho} {σ:MH} {Q:V->MH->Prop} {X:MH->Prop}
theorem rNew (ok:SysOk S) {k:Nat} {f:Str} {C fI:Addr} {p pos:Pos} {args:List Expr} (hg:gOk S F f (.ref C)) (hp:args.all Zt=true) (hm:V5 S.K C fI=true) (hk:k+1<=n.1)
    (h:ZD S F n args ρ σ (λms σ1=>∀d,σ1 d=none->Fn S k (.ref fI) (.inst C d::ms) (σ1.set d (.flds C [])) (λm σ2=>m=.none/\Q (.inst C d) σ2)) X):WE S F n (eval (.Call (.Name f p) args [] pos) F.env) ρ σ Q X:=by
  unfold V5 at hm;simp only [Bool.and_eq_true,beq_iff_eq] at hm;obtain ⟨⟨⟨m1,m2⟩,m3⟩,m4⟩:=hm;intro A s hR x;refine Call_Name (ZM hp) (gEval ok x hg ?_);refine callWith_of (P:=S.K.In) (by rw [ZG];rfl) (keeps_K m4) (ZQ ZG (h.run hR x ?_));intro us ms σ1 s1 y1 x1 r1 q1;have XK:=x1.g.inK ok;refine ⟨XK,wpAny_call ?_⟩;obtain ⟨hh,g,dr,t,os⟩:=s1;refine make_core (makes_of XK m1) (looks_findIn XK m2) (λself=>bind_fn XK self m3) (.inl rfl) ?_;have hd0:hh.get? hh.objs.size=none:=Zf _;have gr:∀b o,hh.get? b=some o->((hh.push emptyDict).push (instObj C hh.objs.size)).get? b=some o:=λb o e=>Heap.get?_push_of_some _ (Heap.get?_push_of_some _ e);obtain ⟨y2,x2⟩:=x1.grow1 (h':=(hh.push emptyDict).push (instObj C hh.objs.size)) (t:=t) (d:=dr) (mo:=.flds C []) gr hd0 (by
    refine ⟨[],0,Heap.get?_push_of_some _ (Heap.get?_push_size _ rfl),?_⟩;unfold Zm;rfl)
  have hx:((hh.push emptyDict).push (instObj C hh.objs.size)).get? (hh.objs.size+1)=some (instObj C hh.objs.size):=by
    have:((hh.push emptyDict).push (instObj C hh.objs.size)).get? (hh.push emptyDict).objs.size=some (instObj C hh.objs.size):=Heap.get?_push_size _ rfl;rwa [Heap.size_push] at this
  have hself:Zv ((hh.push emptyDict).push (instObj C hh.objs.size)) (.inst C hh.objs.size) (.ref (hh.objs.size+1)):=by
    simp only [vr0,vr1,vr2,vr3,vr4,vr5,vr6,vr7];exact ⟨_,rfl,hx⟩
  have RR:KL (k,0) (A.under (.builtin "type.__call__" ⟨.ref C::us,[]⟩)):=(KL.of_le (k:=n.1) (j:=n.2) (k':=k+1) (j':=0) hR.2.1 hk (by lia)).under C us;refine codeAny_mono (q1 hh.objs.size (x1.none_of hd0) _ ⟨(hh.push emptyDict).push (instObj C hh.objs.size),g,dr,t,os⟩ (.ref (hh.objs.size+1)::us) RR x2.g (Zc.cons hself (r1.over x1 y2))) ?_;rintro r s' ⟨σ',u,m,rfl,ya,g2,r2,rfl,q2⟩;obtain rfl:=r2;refine ⟨rfl,.inst C hh.objs.size,σ',y1.trans (y2.trans ya),x2.step ya g2,?_,q2⟩;exact hself.keep (ya.vkeep0 x2.g)
end
set_option tactic.hygienic false
section
variable {S:Sys} {F:Frm} {n:Nat×Nat} {ρ:Rho} {σ:MH} {Q:V->MH->Prop} {QB:Bool->MH->Prop} {X:MH->Prop}
theorem tAnd {x:Expr} {rest:List Expr} {pos:Pos} {whole:Sem Value} (h:WB S F n (isTrue x F.env (eval x F.env)) ρ σ (λb σ1=>if b=true then WB S F n (isTrue (.BoolOp .And rest pos) F.env whole) ρ σ1 QB X else QB false σ1) X) :
    WB S F n (isTrue (.BoolOp .And (x::rest) pos) F.env whole) ρ σ QB X:=by
  intro A s hR y;refine isTrue_and (wpAny_mono (h A s hR y) ?_ λ_ _ z=>z);rintro c s1 ⟨b,σ1,y1,x1,rfl,q⟩;cases c with
  | false=>exact ⟨false,σ1,y1,x1,rfl,by simpa using q⟩
  | true=>
    simp only [if_true] at q ⊢;refine wpAny_mono (q A s1 hR x1) ?_ λ_ _ z=>z;rintro c2 s2 ⟨b2,σ2,y2,x2,r2,q2⟩;exact ⟨b2,σ2,y1.trans y2,x2,r2,q2⟩
theorem tOr {x:Expr} {rest:List Expr} {pos:Pos} {whole:Sem Value} (h:WB S F n (isTrue x F.env (eval x F.env)) ρ σ (λb σ1=>if b=true then QB true σ1 else WB S F n (isTrue (.BoolOp .Or rest pos) F.env whole) ρ σ1 QB X) X) :
    WB S F n (isTrue (.BoolOp .Or (x::rest) pos) F.env whole) ρ σ QB X:=by
  intro A s hR y;refine isTrue_or (wpAny_mono (h A s hR y) ?_ λ_ _ z=>z);rintro c s1 ⟨b,σ1,y1,x1,rfl,q⟩;cases c with
  | true=>exact ⟨true,σ1,y1,x1,rfl,by simpa using q⟩
  | false=>
    simp only [Bool.false_eq_true,if_false] at q ⊢;refine wpAny_mono (q A s1 hR x1) ?_ λ_ _ z=>z;rintro c2 s2 ⟨b2,σ2,y2,x2,r2,q2⟩;exact ⟨b2,σ2,y1.trans y2,x2,r2,q2⟩
theorem tOr0 {pos:Pos} {whole:Sem Value} (q:QB false σ):WB S F n (isTrue (.BoolOp .Or [] pos) F.env whole) ρ σ QB X:=by
  intro A s hR y;exact isTrue_or_nil ⟨false,σ,Ze.refl ..,y,rfl,q⟩
theorem rAnd2 {a b:Expr} {pos:Pos} (h:WE S F n (eval a F.env) ρ σ (λm σ1=>∃c,m=.bool c/\(c=true->WE S F n (eval b F.env) ρ σ1 Q X)/\(c=false->Q (.bool false) σ1)) X):WE S F n (eval (.BoolOp .And [a,b] pos) F.env) ρ σ Q X:=by
  intro A s hR y;refine BoolOp_and (wpAny_mono (h A s hR y) ?_ λ_ _ z=>z);rintro u s1 ⟨m,σ1,y1,x1,r1,c,rfl,q1,q2⟩;obtain rfl:=r1;refine wpAny_truthy_bool ?_;cases c with
  | false=>exact ⟨.bool false,σ1,y1,x1,by first | exact rfl | exact ⟨_,rfl⟩,q2 rfl⟩
  | true=>
    simp only [if_true];refine BoolOp_one (wpAny_mono (q1 rfl A s1 hR x1) ?_ λ_ _ z=>z);rintro u2 s2 ⟨m2,σ2,y3,x2,r2,q3⟩;exact ⟨m2,σ2,y1.trans y3,x2,r2,q3⟩
theorem tChain2 {l r1 r2:Expr} {o1 o2:CmpOp} {pos:Pos} {whole:Sem Value}
    (h:WE S F n (eval l F.env) ρ σ (λm0 σ0=>WE S F n (eval r1 F.env) ρ σ0 (λm1 σ1=>Z6 S F n (compareOp o1) m0 m1 ρ σ1 (λc σ2=>∃b,c=.bool b/\(b=false->QB false σ2)/\
      (b=true->WE S F n (eval r2 F.env) ρ σ2 (λm2 σ3=>Z6 S F n (compareOp o2) m1 m2 ρ σ3 (λc σ4=>∃b,c=.bool b/\QB b σ4) X) X)) X) X) X)
    (hm:lastMarks [o1,o2] [r1,r2]=false):WB S F n (isTrue (.Compare l [o1,o2] [r1,r2] pos) F.env whole) ρ σ QB X:=by
  intro A s hR y;refine isTrue_chain (wpAny_mono (h A s hR y) ?_ λ_ _ z=>z) hm;rintro u0 s0 ⟨m0,σ0,y0,x0,rr0,h0⟩;refine test_link (wpAny_mono (h0 A s0 hR x0) ?_ λ_ _ z=>z);rintro u1 s1 ⟨m1,σ1,y1,x1,rr1,h1⟩;refine wpAny_mono (h1 u0 u1 A s1 hR x1 (rr0.over x0 y1) rr1) ?_ λ_ _ z=>z;rintro c s2 ⟨mc,σ2,y2,x2,rc,b,rfl,hf,ht⟩;obtain rfl:=rc;refine wpAny_truthy_bool ?_;cases b with
  | false=>exact ⟨false,σ2,y0.trans (y1.trans y2),x2,rfl,hf rfl⟩
  | true=>
    simp only [if_true];refine test_last (wpAny_mono (ht rfl A s2 hR x2) ?_ λ_ _ z=>z);rintro u2 s3 ⟨m2,σ3,y3,x3,rr2,h3⟩;have r1':=(rr1.over x1 y2).over x2 y3;refine wpAny_mono (h3 u1 u2 A s3 hR x3 r1' rr2) ?_ λ_ _ z=>z;rintro c s4 ⟨mc,σ4,y4,x4,rc,b,rfl,q⟩;obtain rfl:=rc;exact wpAny_truthy_bool ⟨b,σ4,y0.trans (y1.trans (y2.trans (y3.trans y4))),x4,rfl,q⟩
theorem UD {pos:Pos} (q:∀D,σ D=none->Q (.ref D) (σ.set D (.dict []))):WE S F n (eval (.Dict [] [] pos) F.env) ρ σ Q X:=by
  intro A s hR y;refine wpAny_Dict_empty ?_;obtain ⟨y1,x1⟩:=y.alloc { cls:=.type "dict",data:=.dict #[] } (.dict []) s.toks (by
    exact ⟨[],Heap.DictOf.new (knd:=S.kk) s.heap,rfl,Zc.nil⟩)
  exact ⟨.ref _,_,y1,x1,by first | exact rfl | exact ⟨_,rfl⟩,q _ (y.g.none_of_size (Nat.le_refl _))⟩
theorem UO {pos:Pos} (q:∀D,σ D=none->Q (.ref D) (σ.set D (.tdict []))):WE S F n (eval (.Dict [] [] pos) F.env) ρ σ Q X:=by
  intro A s hR y;refine wpAny_Dict_empty ?_;obtain ⟨y1,x1⟩:=y.alloc { cls:=.type "dict",data:=.dict #[] } (.tdict []) s.toks (by
    exact ⟨[],Heap.DictOfH.new (knd:=S.tk) s.heap,rfl,Zc.nil⟩)
  exact ⟨.ref _,_,y1,x1,by first | exact rfl | exact ⟨_,rfl⟩,q _ (y.g.none_of_size (Nat.le_refl _))⟩
theorem Jh {v lo:Expr} {sp pos:Pos} (h:WE S F n (eval v F.env) ρ σ (λm σ1=>∃ms,m=.tup ms/\WE S F n (eval lo F.env) ρ σ1 (λml σ2=>∃i:Nat,ml=.int i/\1<=i/\i<=ms.length/\ms.length<=1000000/\Q (.tup (ms.drop i)) σ2) X) X) :
    WE S F n (eval (.Subscript v (.Slice (some lo) none none sp) pos) F.env) ρ σ Q X:=by
  intro A s hR y;refine Subscript_ (wpAny_mono (h A s hR y) ?_ λ_ _ z=>z);rintro u s1 ⟨m,σ1,y1,x1,r1,ms,rfl,h1⟩;refine wpAny_Slice ?_;rw [evalPart_some,evalPart_none];refine wpAny_mono (h1 A s1 hR x1) ?_ λ_ _ z=>z;rintro ul s2 ⟨ml,σ2,y2,x2,r2,i,rfl,hi1,hi2,hz,q⟩;have r1':=r1.over x1 y2;simp only [vr0,vr1,vr2,vr3,vr4,vr5,vr6,vr7] at r2 r1';obtain ⟨t,rfl⟩:=r2;obtain ⟨a,items,rfl,hT,rs⟩:=r1';have hl:=rs.length;simp only [Array.length_toList] at hl;refine wpAny_pure (wpAny_pure ?_);obtain ⟨y3,x3⟩:=x2.push { cls:=.type "slice",data:=.fields #[.int i t,.none,.none] } s2.toks;have hT':IsTup (s2.heap.push { cls:=.type "slice",data:=.fields #[.int i t,.none,.none] }) a items:=YZ hT (y3.vkeep0 x2.g);refine tail_any (s:={ s2 with heap:=s2.heap.push { cls:=.type "slice",data:=.fields #[.int i t,.none,.none] } }) hT'.typeIs slot_tuple_getitem.lookup
    (getItem_tuple_from hT' (Heap.IsSliceOf.new ..) hi1 (by lia) ?_ (YE (by lia))) (ops:=[.ref s2.heap.objs.size,.ref a]) rfl
  obtain ⟨y4,x4⟩:=x3.push { cls:=.type "tuple",data:=.seq (items.toList.drop i).toArray } s2.toks;refine ⟨.tup (ms.drop i),σ2,y1.trans (y2.trans (y3.trans y4)),x4,?_,q⟩;simp only [vr0,vr1,vr2,vr3,vr4,vr5,vr6,vr7];exact ⟨_,_,rfl,⟨_,Heap.get?_push_size _ rfl,rfl,_,rfl⟩,by simpa using ((rs.over x2 y3).over x3 y4).drop i⟩
end
set_option tactic.hygienic false
section
variable {S:Sys} {F:Frm} {n:Nat×Nat} {ρ:Rho} {σ:MH} {Q:V->MH->Prop} {QB:Bool->MH->Prop} {X:MH->Prop}
noncomputable def Q9 (lo hi st:Option Int) (len:Nat):List Nat:=sliceRange (sliceBounds lo hi st len).1 (sliceBounds lo hi st len).2.1 (sliceBounds lo hi st len).2.2
noncomputable def JT (ms:List V) (lo hi st:Option Int):List V:=(Q9 lo hi st ms.length).filterMap (ms[·]?)
theorem Qt {h:Heap} {ms:List V} {us:List Value} (r:Zc h ms us) (lo hi st:Option Int):Zc h (JT ms lo hi st) (slicePick us.toArray lo hi st).toList:=by
  have hl:=r.length;have e:(slicePick us.toArray lo hi st).toList=(Q9 lo hi st ms.length).filterMap (us[·]?):=by
    simp [slicePick,Q9,hl]
  rw [e,JT];have go:∀js:List Nat,Zc h (js.filterMap (ms[·]?)) (js.filterMap (us[·]?)):=by
    intro js;induction js with
    | nil=>exact Zc.nil
    | cons j js ih=>
      cases hm:ms[j]? with
      | none=>
        have hu:us[j]?=none:=by rw [List.getElem?_eq_none_iff] at hm ⊢;lia
        simp only [List.filterMap_cons,hm,hu];exact ih
      | some m=>
        obtain ⟨u,hu,ru⟩:=r.get j hm;simp only [List.filterMap_cons,hm,hu];exact Zc.cons ru ih
  exact go _
theorem VG (ms:List V) (k:Nat):JT ms none (some (k:Int)) none=ms.take k:=by
  have e:sliceBounds none (some (k:Int)) none ms.length=(((0:Nat):Int),((min k ms.length:Nat):Int),1):=by
    simp only [sliceBounds,Option.getD_none];have h2:¬ ((k:Int)<0):=by lia
    simp only [h2,if_false,show (1:Int)>0 by decide,if_true];congr 1;congr 1;lia
  unfold JT Q9;rw [e];have:=pick_run ms.toArray 0 (min k ms.length);simp only [sliceRange_one,Nat.sub_zero];simp only [List.getElem?_toArray] at this;rw [this];simp only [List.drop_zero];by_cases h:k<=ms.length
  · rw [Nat.min_eq_left h]
  · rw [Nat.min_eq_right (by lia),List.take_length,List.take_of_length_le (by lia)]
theorem rev_idx {α:Type}:∀(l:List α),((List.range l.length).map λ(k:Nat)=>l.length-1-k).filterMap (l[·]?)=l.reverse:=by
  intro l;have h:((List.range l.length).map λ(k:Nat)=>l.length-1-k)=(List.range l.length).reverse:=by
    apply List.ext_getElem
    · simp
    · intro i h1 h2;simp at h1 h2 ⊢
  rw [h,List.filterMap_reverse,List.filterMap_getElem?_range_length]
theorem pickV_rev (ms:List V):JT ms none none (some (-1))=ms.reverse:=by
  have e:sliceBounds none none (some (-1)) ms.length=((ms.length:Int)-1,-1,-1):=by
    simp [sliceBounds]
  unfold JT Q9;rw [e];have e2:sliceRange ((ms.length:Int)-1) (-1) (-1)=(List.range ms.length).map λ(k:Nat)=>ms.length-1-k:=by
    unfold sliceRange;simp only [show ¬ ((-1:Int)>0) by decide,if_false];by_cases h:(ms.length:Int)-1 > -1
    · rw [if_pos h];have:(((ms.length:Int)-1 - -1 - -1-1) / - -1).toNat=ms.length:=by
        rw [show (- -1:Int)=1 by decide,Int.ediv_one];lia
      rw [this];apply List.map_congr_left;intro k hk;have:=List.mem_range.mp hk;lia
    · have:ms.length=0:=by lia
      simp [h,this]
  rw [e2];exact rev_idx ms
noncomputable def Vx:V->Option (Option Int)
  | .none=>some none
  | .int i=>some (some i)
  | _=>none
theorem XJ {h:Heap} {m:V} {u:Value} {o:Option Int} (r:Zv h m u) (e:Vx m=some o):IsPart u o:=by
  cases m with
  | none=>
    have r:u=.none:=r;injection (show some none=some o from e) with e
    subst e;subst r;exact .none
  | int i=>
    obtain ⟨t,rfl⟩:=(show ∃t,u=.int i t from r);injection (show some (some i)=some o from e) with e
    subst e;exact .int _ _
  | _=>exact nomatch (show none=some o from e)
theorem UV {v:Expr} {lo hi st:Option Expr} {sp pos:Pos}
    (h:WE S F n (eval v F.env) ρ σ (λm σ1=>∃a,m=.ref a/\WE S F n (evalPart lo F.env) ρ σ1 (λm1 σ2=>WE S F n (evalPart hi F.env) ρ σ2 (λm2 σ3=>WE S F n (evalPart st F.env) ρ σ3 (λm3 σ4=>
      ∃ms o1 o2 o3,σ4 a=some (.list ms)/\Vx m1=some o1/\Vx m2=some o2/\Vx m3=some o3/\o3≠some 0/\ms.length<=1000000/\∀D,σ4 D=none->Q (.ref D) (σ4.set D (.list (JT ms o1 o2 o3)))) X) X) X) X) :
    WE S F n (eval (.Subscript v (.Slice lo hi st sp) pos) F.env) ρ σ Q X:=by
  intro A s hR y;refine Subscript_ (wpAny_mono (h A s hR y) ?_ λ_ _ z=>z);rintro u s1 ⟨m,σ1,y1,x1,r1,a,rfl,h1⟩;refine wpAny_Slice (wpAny_mono (h1 A s1 hR x1) ?_ λ_ _ z=>z);rintro ul s2 ⟨m1,σ2,y2,x2,r2,h2⟩;refine wpAny_mono (h2 A s2 hR x2) ?_ λ_ _ z=>z;rintro uh s3 ⟨m2,σ3,y3,x3,r3,h3⟩;refine wpAny_mono (h3 A s3 hR x3) ?_ λ_ _ z=>z;rintro us s4 ⟨m3,σ4,y4,x4,r4,ms,o1,o2,o3,ha,p1,p2,p3,hne,hz,q⟩;have r2':=(r2.over x2 y3).over x3 y4;have r3':=r3.over x3 y4;obtain rfl:=Zo r1;obtain ⟨vs,k,o,rs⟩:=x4.g.list ha;have hl:=rs.length;have hL:(s4.heap.push { cls:=.type "slice",data:=.fields #[ul,uh,us] }).IsList a vs.toArray:=Heap.IsList.push ⟨_,o,rfl,_,rfl⟩ _;obtain ⟨y5,x5⟩:=x4.push { cls:=.type "slice",data:=.fields #[ul,uh,us] } s4.toks;have hsub:∃ops,subscripted (.Slice lo hi st sp) false (.ref a) (.ref s4.heap.objs.size)=operate ops (getItem (.ref a) (.ref s4.heap.objs.size)):=by
    cases st with
    | none=>exact ⟨_,rfl⟩
    | some e=>exact ⟨_,rfl⟩
  obtain ⟨ops,hsub⟩:=hsub;refine tail_any (s:={ s4 with heap:=s4.heap.push { cls:=.type "slice",data:=.fields #[ul,uh,us] } }) (Heap.IsList.typeIs (s:={ s4 with heap:=s4.heap.push { cls:=.type "slice",data:=.fields #[ul,uh,us] } }) hL) list_getitem_lookup
    (wpAny_getItem_list_slice hL (Heap.IsSliceOf.new ..) (XJ r2' p1) (XJ r3' p2) (XJ r4 p3) hne ?_ (YE (by simp;lia))) hsub
  obtain ⟨y6,x6⟩:=x5.alloc { cls:=.type "list",data:=.seq (slicePick vs.toArray o1 o2 o3) } (.list (JT ms o1 o2 o3)) s4.toks (by
    refine ⟨(slicePick vs.toArray o1 o2 o3).toList,0,?_,?_⟩
    · have:(slicePick vs.toArray o1 o2 o3).toList.toArray=slicePick vs.toArray o1 o2 o3:=by simp
      rw [this];exact Heap.get?_push_size _ rfl
    · exact (Qt (rs.over x4 y5) o1 o2 o3).keep λb o e _=>Heap.get?_push_of_some _ e)
  exact ⟨.ref _,_,y1.trans (y2.trans (y3.trans (y4.trans (y5.trans y6)))),x6,by first | exact rfl | exact ⟨_,rfl⟩,q _ (x5.g.none_of_size (Nat.le_refl _))⟩
theorem J8 (q:Q .none σ):WE S F n (evalPart none F.env) ρ σ Q X:=by
  intro A s hR y;rw [evalPart_none];exact wpAny_pure ⟨.none,σ,Ze.refl ..,y,by first | exact rfl | exact ⟨_,rfl⟩,q⟩
theorem rPart {e:Expr} (h:WE S F n (eval e F.env) ρ σ Q X):WE S F n (evalPart (some e) F.env) ρ σ Q X:=h
end
set_option tactic.hygienic false
noncomputable def Yy (i:Nat):List V->List V
  | []=>[]
  | v::r=>.tup [.int i,v]::Yy (i+1) r
noncomputable def enumIter (S:Sys) (e it l:Addr) (all:List V):Jn S where
  it:=.ref e
  fp:=[e,it]
  G:=λσ=>σ l=some (.list all)
  pairs:=true
  At:=λitems h=>∃(i:Nat) (old:Value),IsEnum h e it i old/\h.IsListIter it l i/\Yy i (all.drop i)=items/\e≠it
  frame:=λitems h h' ⟨i,old,a,⟨o,ho,r⟩,b,c⟩ k _=>⟨i,old,k e (by simp) _ a,⟨o,k it (by simp) o ho,r⟩,b,c⟩
  live2:=λitems h ⟨i,old,a,⟨o,ho,hc,hd⟩,_,_⟩ b hb=>by
    simp only [List.mem_cons,List.not_mem_nil,or_false] at hb;rcases hb with rfl | rfl
    · exact ⟨_,a,Zq a rfl (by intro q;injection q with q;exact absurd q (by decide)),Y9 rfl⟩
    · exact ⟨o,ho,Zq ho hd (by rw [hc];intro q;injection q with q;exact absurd q (by decide)),Y9 hd⟩
  next:=λtarget A E σ s x rest P ht hA g hG ⟨i,old,he,hit,hx,hne⟩ h=>by
    have o:=(g.objs _ _ hG).2;obtain ⟨us,k,ho,r⟩:=o;cases hd:all.drop i with
    | nil=>rw [hd] at hx;simp [Yy] at hx
    | cons v tl=>
      rw [hd] at hx;simp only [Yy,List.cons.injEq] at hx;obtain ⟨rfl,rfl⟩:=hx;have hv:all[i]?=some v:=by have:=congrArg (λl=>l[0]?) hd;simpa using this
      have htl:all.drop (i+1)=tl:=by have:=congrArg (List.drop 1) hd;simpa using this
      obtain ⟨u,hu,ru⟩:=r.get i hv;have hL:s.heap.IsList l us.toArray:=⟨_,ho,rfl,_,rfl⟩;refine wpAny_pyNext_enum_item he hit hL (x:=u) (by simpa using hu) hne λh1 hout hit1 htup hsz hk=>⟨_,rfl,?_⟩;rcases ht with ht | ⟨_,ht⟩
      · obtain ⟨es,kk,p,rfl⟩:=YD ht;refine wpAny_letOwnedTupleGo_enum (s:={ s with heap:=h1,toks:=s.toks+1 }) hout λh2 he2 hs2=>?_;have hTe:s.heap.objs.size≠e:=Nat.ne_of_gt (Heap.lt_size he);have keepAll:∀b o,s.heap.get? b=some o->b∉[e,it]->h2.get? b=some o:=λb o hb hn=>by
          simp only [List.mem_cons,List.not_mem_nil,or_false,not_or] at hn;exact (hs2.2 b hn.1).trans (hk b o hn.1 hn.2 hb)
        have vk:ZJ s.heap h2:=λb o hb hvt=>keepAll b o hb (λhm=>by
          simp only [List.mem_cons,List.not_mem_nil,or_false] at hm;rcases hm with rfl | rfl
          · rw [he] at hb;cases hb;exact Zq he rfl (by intro q;injection q with q;exact absurd q (by decide)) hvt
          · obtain ⟨o',ho',hc',hd'⟩:=hit;rw [ho'] at hb;cases hb;exact Zq ho' hd' (by rw [hc'];intro q;injection q with q;exact absurd q (by decide)) hvt)
        refine h h2 (s.toks+1) _ keepAll ?_ ⟨i+1,_,he2,?_,by rw [htl],hne⟩
        · simp only [vr0,vr1,vr2,vr3,vr4,vr5,vr6,vr7];refine ⟨_,#[.int i s.toks,u],rfl,⟨_,(hs2.2 _ hTe).trans htup,rfl,_,rfl⟩,?_⟩;exact Zc.cons (by first | exact rfl | exact ⟨_,rfl⟩) (Zc.cons (ru.keep vk) Zc.nil)
        · obtain ⟨o',ho',r'⟩:=hit1;exact ⟨o',(hs2.2 it (Ne.symm hne)).trans ho',r'⟩
      · cases ht
  stop:=λA E σ s P hA g hG ⟨i,old,he,hit,hx,hne⟩ h=>by
    have o:=(g.objs _ _ hG).2;obtain ⟨us,k,ho,r⟩:=o;have hL:s.heap.IsList l us.toArray:=⟨_,ho,rfl,_,rfl⟩;cases hd:all.drop i with
    | cons v tl=>rw [hd] at hx;simp [Yy] at hx
    | nil=>
      have hle:all.length<=i:=by simpa using hd
      refine wpAny_pyNext_enum_end hA he hit hL ?_ λh' hs=>h h' s.toks λb o hb hn=>hs b o (λq=>hn (by simp [q])) hb;simp only [List.getElem?_toArray,List.getElem?_eq_none_iff];rw [<-r.length];exact hle
  self:=λA E s items P ⟨i,old,he,hit,_,_⟩ h=>wpAny_pyIter_enum he h
section
variable {S:Sys} {F:Frm} {n:Nat×Nat} {ρ:Rho} {σ:MH} {Q:V->MH->Prop} {QB:Bool->MH->Prop} {X:MH->Prop}
theorem iEnum (ok:SysOk S) {p pos:Pos} {e:Expr} {QI:List V->(MH->Prop)->Bool->MH->Prop} (hg:bOk S F "enumerate" (.type "enumerate")) (hp:Zt e=true)
    (h:WE S F n (eval e F.env) ρ σ (λm σ1=>∃l vs,m=.ref l/\σ1 l=some (.list vs)/\QI (Yy 0 vs) (λσ'=>σ' l=some (.list vs)) true σ1) X):WIt S F n (.Call (.Name "enumerate" p) [e] [] pos) ρ σ QI X:=by
  intro A s P hR y k;refine Call_Name (ZM (by simp [hp])) (bEval ok y hg ?_);have hA:ZD S F n [e] ρ σ (λms σ1=>∃l vs,ms=[.ref l]/\σ1 l=some (.list vs)/\QI (Yy 0 vs) (λσ'=>σ' l=some (.list vs)) true σ1) X:=by
    refine aCons ?_;intro A s hR y;refine wpAny_mono (h A s hR y) ?_ λ_ _ z=>z;rintro u s1 ⟨m,σ1,y1,x1,r1,l,vs,rfl,hl,q⟩;exact ⟨.ref l,σ1,y1,x1,r1,aNil ⟨l,vs,rfl,hl,q⟩⟩
  refine PyProof.Rows.callWith_type ZG (ZQ ZG (hA.run hR y ?_));rintro us ms σ1 s1 y1 x1 r1 ⟨l,vs,rfl,hl,q⟩;obtain ⟨u,_,rfl,r1,rfl⟩:=r1;obtain rfl:=Zo r1;obtain ⟨us,kk,o,rs⟩:=x1.g.list hl;refine call_enumerate_list (items:=us.toArray) ⟨_,o,rfl,_,rfl⟩ λh' he hit hsz hk=>?_;obtain ⟨y2,x2⟩:=x1.grow (h':=h') (t:=s1.toks) (d:=s1.drawn) hk;refine wpAny_pyIter_enum he ?_;have none_of:∀b,s1.heap.objs.size<=b->s.heap.get? b=none/\σ1 b=none:=λb hb=>by
    have e1:s1.heap.get? b=none:=Jd hb;refine ⟨?_,x1.none_of e1⟩;cases q:s.heap.get? b with
    | none=>rfl
    | some o=>obtain ⟨o',e'⟩:=y1.alive b o q;rw [e1] at e';cases e'
  refine k (Yy 0 vs) _ true σ1 _ (enumIter S (s1.heap.objs.size+1) s1.heap.objs.size l vs) q (y1.trans y2) x2 rfl rfl ⟨0,_,he,hit,rfl,Nat.succ_ne_self _⟩ λb hb=>?_;have hb':b∈[s1.heap.objs.size+1,s1.heap.objs.size]:=hb;simp only [List.mem_cons,List.not_mem_nil,or_false] at hb';rcases hb' with rfl | rfl
  · exact none_of _ (Nat.le_succ _)
  · exact none_of _ (Nat.le_refl _)
end
set_option tactic.hygienic false
noncomputable def strIter (S:Sys) (I:Addr) (x:Str) (t:Tok):Jn S where
  it:=.ref I
  fp:=[I]
  G:=λ_=>True
  pairs:=false
  At:=λitems h=>∃i,h.IsStrIter I "str_ascii_iterator" x t i/\(x.cps.toList.drop i).map (λc=>V.str ⟨#[c]⟩)=items
  frame:=λitems h h' zz k _=>by obtain ⟨i,⟨o,ho,r⟩,e⟩:=zz;exact ⟨i,⟨o,k I (by simp) o ho,r⟩,e⟩
  live2:=λitems h zz b hb=>by
    obtain ⟨i,⟨o,ho,hc,hd⟩,e⟩:=zz;simp only [List.mem_singleton] at hb;subst hb;exact ⟨o,ho,Zq ho hd (by rw [hc];intro q;injection q with q;exact absurd q (by decide)),Y9 hd⟩
  next:=λtarget A E σ s v rest P ht hA g hG zz h=>by
    obtain ⟨i,hit,e⟩:=zz;cases hd:x.cps.toList.drop i with
    | nil=>rw [hd] at e;simp at e
    | cons c tl=>
      rw [hd] at e;simp only [List.map_cons,List.cons.injEq] at e;obtain ⟨rfl,rfl⟩:=e;have hv:x.cps[i]?=some c:=by have:=congrArg (λl=>l[0]?) hd;simpa using this
      have htl:x.cps.toList.drop (i+1)=tl:=by have:=congrArg (List.drop 1) hd;simpa using this
      refine wpAny_pyNext_ascii_item hit hv λh' hit' hs=>⟨_,rfl,?_⟩;have fin:P (.str ⟨#[c]⟩ s.toks) { s with heap:=h',toks:=s.toks+1 }:=h h' (s.toks+1) _ (λb o hb hne=>(hs.2 b (by simpa using hne)).trans hb) (by first | exact rfl | exact ⟨_,rfl⟩) ⟨i+1,hit',by rw [htl]⟩;rcases ht with ht | ⟨ht,_⟩
      · obtain ⟨es,kk,p,rfl⟩:=YD ht;exact wpAny_pure fin
      · rw [XR ht];exact wpAny_pure fin
  stop:=λA E σ s P hA g hG zz h=>by
    obtain ⟨i,hit,e⟩:=zz;refine wpAny_pyNext_ascii_end hA hit ?_ λh' hs=>h h' s.toks λb o hb hne=>hs b o (by simpa using hne) hb;have:x.cps.toList.drop i=[]:=by simpa using e
    have hle:x.cps.toList.length<=i:=by simpa using this
    simpa using hle
  self:=λA E s items P zz h=>by obtain ⟨i,hit,_⟩:=zz;exact wpAny_pyIter_striter_ascii hit h
theorem mk_str {S:Sys} {σ:MH} {x:Str} (ha:x.cps.all (·<128)=true):Kf S (.str x) σ (x.cps.toList.map (λc=>V.str ⟨#[c]⟩)) (λ_=>True) false:=by
  intro u A E s P g r h;obtain ⟨t,rfl⟩:=r;refine wpAny_pyIter_ascii ha ?_;exact h (strIter S s.heap.objs.size x t) _ s.toks rfl rfl (λb hb=>by
    have:b=s.heap.objs.size:=List.mem_singleton.mp hb;subst this;exact Zf _) (λb o e=>Heap.get?_push_of_some _ e) ⟨0,⟨_,Heap.get?_push_size _ rfl,rfl,rfl⟩,rfl⟩
section
variable {S:Sys} {F:Frm} {n:Nat×Nat} {ρ:Rho} {σ:MH} {Q:V->MH->Prop} {QB:Bool->MH->Prop} {X:MH->Prop}
theorem p_isspace {x:Str} (q:Q (.bool (Txt.isspace x)) σ):ZN S F n (.builtin "str.isspace") [.str x] ρ σ Q X:=by
  intro us A s hR y r;obtain ⟨u,_,rfl,⟨t,rfl⟩,rfl⟩:=r;refine call_gives PySem.F.slot_str_isspace (typeIs_str _ _ _) PySem.F.entry_str_isspace (PySem.F.args_str_isspace_1 _) (gives_str_isspace x t) ?_;exact ⟨.bool (Txt.isspace x),σ,Ze.refl ..,y,by simp only [vr0,vr1,vr2,vr3,vr4,vr5,vr6,vr7];rfl,q⟩
theorem p_instr {x y:Str} (q:Q (.bool (Txt.contains x y)) σ):Z6 S F n (compareOp .In) (.str y) (.str x) ρ σ Q X:=by
  intro u1 u2 A s hR z r1 r2;simp only [vr0,vr1,vr2,vr3,vr4,vr5,vr6,vr7] at r1 r2;obtain ⟨t1,rfl⟩:=r1;obtain ⟨t2,rfl⟩:=r2;refine PySem.P.in_str ?_;exact ⟨.bool (Txt.contains x y),σ,Ze.refl ..,z,by simp only [vr0,vr1,vr2,vr3,vr4,vr5,vr6,vr7];rfl,q⟩
theorem p_itemS {l r:Expr} {x:Str} {c:Nat} (hc:x.cps[0]?=some c) (q:Q (.str ⟨#[c]⟩) σ) (hr:YJ r=true):Z6 S F n (subscriptTail l r) (.str x) (.int 0) ρ σ Q X:=by
  intro u1 u2 A s hR y r1 r2;simp only [vr0,vr1,vr2,vr3,vr4,vr5,vr6,vr7] at r1 r2;obtain ⟨t1,rfl⟩:=r1;obtain ⟨t2,rfl⟩:=r2;have hlen:0<x.length:=by
    have:=(Array.getElem?_eq_some_iff.mp hc).1;exact this
  refine tail_any (typeIs_str s x t1) PySem.F.slot_str_getitem.lookup (PySem.P.getItem_str (c:=c) (by decide) ?_ ⟨.str ⟨#[c]⟩,σ,Ze.toks ..,y.toks _,by first | exact rfl | exact ⟨_,rfl⟩,q⟩) (ZH hr);unfold seqIndex?;simp only [show ¬ ((0:Int)<0) by decide,if_false];rw [if_pos (by simp only [Bool.and_eq_true,decide_eq_true_eq];lia)];exact hc
end
set_option tactic.hygienic false
noncomputable def Ext (σ σ':MH):Prop:=∀a mo,σ a=some mo->σ' a=some mo
theorem Ext.refl (σ:MH):Ext σ σ:=λ_ _ e=>e
theorem Ext.trans {a b c:MH} (x:Ext a b) (y:Ext b c):Ext a c:=λd mo e=>y d mo (x d mo e)
theorem Ext.set {σ:MH} {D:Addr} {mo:Zd} (h:σ D=none):Ext σ (σ.set D mo):=λa m e=>by
  rw [MH.set_ne (λq=>by subst q;rw [h] at e;cases e)];exact e
theorem XO (σ:MH) (a:Addr) (x y:Zd):(σ.set a x).set a y=σ.set a y:=by
  funext b;simp only [MH.set];(set_option tactic.hygienic true in split) <;> rfl
theorem StG.forget {S:Sys} {σ σ':MH} {s:Shared} (x:StG S σ' s) (e:Ext σ σ'):StG S σ s:=⟨x.base,λa mo h=>x.objs a mo (e a mo h),x.gens⟩
theorem Ze.forget {own:Addr->Prop} {σ σ' σ'':MH} {s s':Shared} (x:Ze own σ s σ' s') (e:Ext σ'' σ'):Ze own σ s σ'' s':=
  ⟨x.keep,x.alive,λa h=>by
    cases q:σ'' a with
    | none=>exact absurd q h
    | some mo=>exact x.dom a (by rw [e a mo q];simp),x.os⟩
theorem Zx {σ σ':MH} {a:Addr} (e:Ext σ σ') (h:σ' a=none):σ a=none:=by
  cases q:σ a with
  | none=>rfl
  | some mo=>have:=e a mo q;rw [h] at this;cases this
theorem St.forget {S:Sys} {F:Frm} {ρ:Rho} {σ σ':MH} {s:Shared} (x:St S F ρ σ' s) (e:Ext σ σ'):St S F ρ σ s:=
  ⟨x.g.forget e,x.fr,⟨x.lo.1,Zx e x.lo.2⟩,λz c hc=>⟨(x.los z c hc).1,Zx e (x.los z c hc).2⟩,λc hc=>⟨(x.locs c hc).1,Zx e (x.locs c hc).2⟩,x.hist.forget e,x.outs.to λL z=>z.to (Zx e z.un) λo q=>.inl q⟩
section
variable {S:Sys} {F:Frm} {n:Nat×Nat} {ρ:Rho} {σ:MH} {X:MH->Prop}
theorem WE.conseq {t:Sem Value} {Q Q':V->MH->Prop} (h:WE S F n t ρ σ Q' X) (k:∀m σ',Q' m σ'->∃σ'',Ext σ'' σ'/\Q m σ''):WE S F n t ρ σ Q X:=by
  intro A s hR y;refine wpAny_mono (h A s hR y) ?_ λ_ _ z=>z;rintro u s1 ⟨m,σ1,y1,x1,r1,q⟩;obtain ⟨σ2,e,q2⟩:=k m σ1 q;exact ⟨m,σ2,y1.forget e,x1.forget e,r1,q2⟩
theorem WB.conseq {t:Sem Bool} {Q Q':Bool->MH->Prop} (h:WB S F n t ρ σ Q' X) (k:∀m σ',Q' m σ'->∃σ'',Ext σ'' σ'/\Q m σ''):WB S F n t ρ σ Q X:=by
  intro A s hR y;refine wpAny_mono (h A s hR y) ?_ λ_ _ z=>z;rintro u s1 ⟨m,σ1,y1,x1,r1,q⟩;obtain ⟨σ2,e,q2⟩:=k m σ1 q;exact ⟨m,σ2,y1.forget e,x1.forget e,r1,q2⟩
theorem WS.conseq {t:Sem Flow} {Q Q':MF->Rho->MH->Prop} (h:WS S F n t ρ σ Q' X) (k:∀m ρ' σ',Q' m ρ' σ'->∃σ'',Ext σ'' σ'/\Q m ρ' σ''):WS S F n t ρ σ Q X:=by
  intro A s hR y;refine wpAny_mono (h A s hR y) ?_ λ_ _ z=>z;rintro u s1 ⟨m,ρ1,σ1,y1,x1,r1,q⟩;obtain ⟨σ2,e,q2⟩:=k m ρ1 σ1 q;exact ⟨m,ρ1,σ2,y1.forget e,x1.forget e,r1,q2⟩
theorem Fn.conseq {k:Nat} {f:Value} {ms:List V} {Q Q':V->MH->Prop} (h:Fn S k f ms σ Q') (c:∀m σ',Q' m σ'->∃σ'',Ext σ'' σ'/\Q m σ''):Fn S k f ms σ Q:=by
  intro A s us hR g r;refine codeAny_mono (h A s us hR g r) ?_;rintro r s' ⟨σ',u,m,e,a,b,r2,d⟩;obtain ⟨σ2,e2,q2⟩:=c m σ' d;exact ⟨σ2,u,m,e,a.forget e2,b.forget e2,r2,q2⟩
theorem Fn.obs {k:Nat} {f:Value} {ms:List V} {P:V->Prop} (h:Fn S k f ms σ (λm σ'=>Ext σ σ'/\P m)):Fn S k f ms σ (λm σ'=>σ'=σ/\P m):=
  h.conseq λm σ' q=>⟨σ,q.1,rfl,q.2⟩
noncomputable def Ya (S:Sys) (C:Addr) (x:Str) (i:Nat):Prop:=UI S.K C x=true/\putOk S.K C x=true/\(S.flds C).Nodup/\(S.flds C)[i]?=some x
noncomputable def Zu (S:Sys) (C:Addr) (x:Str) (f:Addr):Prop:=Up S.K C x f=true/\(S.flds C).contains x=false
theorem rFld (ok:SysOk S) {e:Expr} {x:Str} {pos:Pos} {Q:V->MH->Prop}
    (h:WE S F n (eval e F.env) ρ σ (λm σ1=>∃(C d:Addr) (ms:List V) (i:Nat) (v:V),m=.inst C d/\σ1 d=some (.flds C ms)/\Ya S C x i/\ms[i]?=some v/\Q v σ1) X)
    (he:eval (.Attribute e x pos) F.env=(do
          let o<-eval e F.env
          standAt (Pos.atName pos)
          let r<-holding [o] (getAttr o x true)
          letTemporaryGo e o r
          pure r)):WE S F n (eval (.Attribute e x pos) F.env) ρ σ Q X:=by
  refine rAttr ok ?_ he;intro A s hR y;refine wpAny_mono (h A s hR y) ?_ λ_ _ z=>z;rintro u s1 ⟨m,σ1,y1,x1,r1,C,d,ms,i,v,hm,hd,⟨a,_,b,c⟩,hv,q⟩;exact ⟨m,σ1,y1,x1,r1,C,d,ms,i,v,hm,hd,a,b,c,hv,q⟩
theorem rMth (ok:SysOk S) {k:Nat} {o:Expr} {name:Str} {apos pos:Pos} {args:List Expr} {pl:Sem Bool} {Q:V->MH->Prop} (hp:args.all Zt=true) (hk:k<=n.1)
    (h:WE S F n (eval o F.env) ρ σ (λm σ1=>∃(C d:Addr) (ms:List V) (f:Addr),m=.inst C d/\σ1 d=some (.flds C ms)/\Zu S C name f/\
      ZD S F n args ρ σ1 (λas σ2=>Fn S k (.ref f) (m::as) σ2 Q) X) X)
    (he:eval (.Call (.Attribute o name apos) args [] pos) F.env=(do
      let ov<-eval o F.env
      standAt apos.atName
      let (f,first)<-holding [ov] (getMethod ov name pl)
      callWith pos f first (backTo pos (starEach args F.env)) [])):WE S F n (eval (.Call (.Attribute o name apos) args [] pos) F.env) ρ σ Q X:=by
  refine rMeth ok hp hk ?_ he;intro A s hR y;refine wpAny_mono (h A s hR y) ?_ λ_ _ z=>z;rintro u s1 ⟨m,σ1,y1,x1,r1,C,d,ms,f,hm,hd,⟨a,b⟩,q⟩;exact ⟨m,σ1,y1,x1,r1,C,d,f,ms,hm,hd,a,b,q⟩
theorem sFld {Q:MF->Rho->MH->Prop} (ok:SysOk S) {o value:Expr} {x:Str} {pos' pos:Pos}
    (h:WE S F n (eval value F.env) ρ σ (λmv σ1=>WE S F n (eval o F.env) ρ σ1 (λmo σ2=>∃(C d:Addr) (ms:List V) (i:Nat),mo=.inst C d/\σ2 d=some (.flds C ms)/\Ya S C x i/\i<=ms.length/\ms.length<=100/\
      Q .next ρ (σ2.set d (.flds C (QX ms i mv)))) X) X)
    (hs:swapsWith value (some (.Attribute o x pos')) pos.line F.env=pure false):WS S F n (exec (.Assign [.Attribute o x pos'] value pos) F.env) ρ σ Q X:=by
  refine sAttr ok ?_ hs;intro A s hR y;refine wpAny_mono (h A s hR y) ?_ λ_ _ z=>z;rintro u s1 ⟨mv,σ1,y1,x1,r1,q1⟩;refine ⟨mv,σ1,y1,x1,r1,λA s hR y=>wpAny_mono (q1 A s hR y) ?_ λ_ _ z=>z⟩;rintro u s2 ⟨mo,σ2,y2,x2,r2,C,d,ms,i,hm,hd,⟨_,a,b,c⟩,h1,h2,q⟩;exact ⟨mo,σ2,y2,x2,r2,C,d,ms,i,hm,hd,a,b,c,h1,h2,q⟩
end
set_option tactic.hygienic false
noncomputable abbrev NF:=Nat->Nat
section
variable {α:Type}
noncomputable def Cl (ns:List (α×List Nat)) (g:NF):Prop:=∀i j a b,ns[i]?=some a->ns[j]?=some b->a.1=b.1->a.2.map g=b.2.map g->g i=g j
noncomputable def Rp (f:NF):Prop:=(∀x,f x<=x)/\∀x,f (f x)=f x
noncomputable def Fi (f g:NF):Prop:=∀x,g (f x)=g x
noncomputable def Re (P:List (Nat×Nat)) (g:NF):Prop:=∀a b,(a,b)∈P->g a=g b
structure Lst (ns:List (α×List Nat)) (P:List (Nat×Nat)) (f:NF):Prop where
  rp:Rp f
  cl:Cl ns f
  re:Re P f
  le:∀g,Cl ns g->Re P g->Fi f g
structure Fo (ns:List (α×List Nat)) (P:List (Nat×Nat)) (f:NF):Prop where
  rp:Rp f
  le:∀g,Cl ns g->Re P g->Fi f g
theorem Lst.fo {ns:List (α×List Nat)} {P:List (Nat×Nat)} {f:NF} (h:Lst ns P f):Fo ns P f:=⟨h.rp,h.le⟩
theorem Fo.lst {ns:List (α×List Nat)} {P:List (Nat×Nat)} {f:NF} (h:Fo ns P f) (c:Cl ns f) (r:Re P f):Lst ns P f:=⟨h.rp,c,r,h.le⟩
theorem Lst.uniq {ns:List (α×List Nat)} {P P':List (Nat×Nat)} {f f':NF} (h:Lst ns P f) (h':Lst ns P' f') (e:∀p,p∈P ↔ p∈P'):f=f':=by
  have a:=h.le f' h'.cl (λa b m=>h'.re a b ((e _).1 m));have b:=h'.le f h.cl (λa b m=>h.re a b ((e _).2 m));funext x;have h1:f' x<=f x:=by rw [<-a x];exact h'.rp.1 _
  have h2:f x<=f' x:=by rw [<-b x];exact h.rp.1 _
  lia
theorem Lst.add {ns:List (α×List Nat)} {P P':List (Nat×Nat)} {f:NF} (h:Lst ns P f) (sub:∀p,p∈P->p∈P') (e:∀a b,(a,b)∈P'->(a,b)∈P\/f a=f b):Lst ns P' f:=
  ⟨h.rp,h.cl,λa b m=>(e a b m).elim (h.re a b) id,λg c r=>h.le g c λa b m=>r a b (sub _ m)⟩
theorem Lst.over {ns:List (α×List Nat)} {P P':List (Nat×Nat)} {f f':NF} (h:Lst ns P f) (h':Lst ns P' f') (sub:∀p,p∈P->p∈P'):Fi f f':=
  h.le f' h'.cl λa b m=>h'.re a b (sub _ m)
theorem Fi.trans {f g k:NF} (a:Fi f g) (b:Fi g k):Fi f k:=λx=>by rw [<-b (f x),a x,b x]
noncomputable def lnk (f:NF) (a b:Nat):NF:=λx=>if f x=max (f a) (f b) then min (f a) (f b) else f x
theorem UE {f:NF} (h:Rp f) (a b:Nat):Rp (lnk f a b):=by
  have key:∀x,lnk f a b x<=f x/\(f (lnk f a b x)=lnk f a b x):=by
    intro x;unfold lnk;(set_option tactic.hygienic true in split)
    · rename_i e;refine ⟨by lia,?_⟩;rcases Nat.le_total (f a) (f b) with q | q
      · rw [Nat.min_eq_left q];exact h.2 a
      · rw [Nat.min_eq_right q];exact h.2 b
    · exact ⟨Nat.le_refl _,h.2 x⟩
  refine ⟨λx=>Nat.le_trans (key x).1 (h.1 x),λx=>?_⟩;have e1:lnk f a b (lnk f a b x)=if lnk f a b x=max (f a) (f b) then min (f a) (f b) else lnk f a b x:=by
    show (if f (lnk f a b x)=max (f a) (f b) then min (f a) (f b) else f (lnk f a b x))=_;rw [(key x).2]
  rw [e1];(set_option tactic.hygienic true in split)
  · rename_i q;unfold lnk at q ⊢;(set_option tactic.hygienic true in split at q)
    · rename_i r;rw [if_pos r]
    · rename_i r;exact absurd q r
  · rfl
theorem lnk_fi {f g:NF} {a b:Nat} (h:Fi f g) (e:g a=g b):Fi (lnk f a b) g:=by
  intro x;unfold lnk;have ha:=h a;have hb:=h b;have hx:=h x;(set_option tactic.hygienic true in split)
  · rename_i q;rcases Nat.le_total (f a) (f b) with r | r
    · rw [Nat.min_eq_left r];rw [Nat.max_eq_right r] at q;rw [ha,e,<-hb,<-q,hx]
    · rw [Nat.min_eq_right r];rw [Nat.max_eq_left r] at q;rw [hb,<-e,<-ha,<-q,hx]
  · exact hx
theorem UJ {f:NF} (a b:Nat):lnk f a b a=lnk f a b b:=by
  unfold lnk;rcases Nat.le_total (f a) (f b) with r | r
  · rw [Nat.min_eq_left r,Nat.max_eq_right r];(set_option tactic.hygienic true in split)
    · rename_i q;simp
    · simp
  · rw [Nat.min_eq_right r,Nat.max_eq_left r];simp
theorem Jz {f:NF} (h:Rp f) (a b:Nat):Fi f (lnk f a b):=by
  intro x;unfold lnk;rw [h.2 x]
theorem J9 {f:NF} {a b:Nat} (e:f a=f b):lnk f a b=f:=by
  funext x;unfold lnk;(set_option tactic.hygienic true in split)
  · rename_i q;rw [q,e];lia
  · rfl
noncomputable def cnt (n:Nat) (f:NF):Nat:=((List.range n).filter λx=>decide (f x=x)).length
theorem filter_lt {l:List Nat} {p q:Nat->Bool} (h:∀x,q x=true->p x=true) {y:Nat} (hy:y∈l) (hp:p y=true) (hq:q y=false):(l.filter q).length<(l.filter p).length:=by
  induction l with
  | nil=>cases hy
  | cons z r ih=>
    have le:∀(r:List Nat),(r.filter q).length<=(r.filter p).length:=by
      intro r;induction r with
      | nil=>simp
      | cons z r ih=>
        simp only [List.filter_cons];cases hz:q z with
        | true=>simp [h z hz,ih]
        | false=>cases p z <;> simp <;> lia
    simp only [List.filter_cons];rcases List.mem_cons.mp hy with rfl | hy
    · rw [hp,hq];simp;have:=le r;lia
    · cases hz:q z with
      | true=>simp [h z hz,ih hy]
      | false=>cases p z <;> simp <;> have:=ih hy <;> lia
theorem WO {n:Nat} {f:NF} {a b:Nat} (h:Rp f) (ha:a<n) (hb:b<n) (e:f a≠f b):cnt n (lnk f a b)<cnt n f:=by
  unfold cnt;refine filter_lt (y:=max (f a) (f b)) ?_ ?_ ?_ ?_
  · intro x hx;simp only [decide_eq_true_eq] at hx ⊢;unfold lnk at hx;(set_option tactic.hygienic true in split at hx)
    · rename_i q;have:=h.1 x;lia
    · exact hx
  · have:=h.1 a;have:=h.1 b;simp only [List.mem_range];lia
  · simp only [decide_eq_true_eq];rcases Nat.le_total (f a) (f b) with r | r
    · rw [Nat.max_eq_right r,h.2]
    · rw [Nat.max_eq_left r,h.2]
  · simp only [decide_eq_false_iff_not];unfold lnk;have:f (max (f a) (f b))=max (f a) (f b):=by
      rcases Nat.le_total (f a) (f b) with r | r
      · rw [Nat.max_eq_right r,h.2]
      · rw [Nat.max_eq_left r,h.2]
    rw [if_pos this];lia
theorem cnt_le {n:Nat} {f g:NF} (hf:Rp f) (hg:Rp g) (h:Fi f g):cnt n g<=cnt n f:=by
  unfold cnt;have le:∀(r:List Nat),(r.filter λx=>decide (g x=x)).length<=(r.filter λx=>decide (f x=x)).length:=by
    intro r;induction r with
    | nil=>simp
    | cons z r ih=>
      simp only [List.filter_cons];by_cases q:g z=z
      · have:f z=z:=by
          have h1:=h z;have h2:=hg.1 (f z);have h3:=hf.1 z;lia
        simp [q,this,ih]
      · by_cases q2:f z=z <;> simp [q,q2] <;> lia
  exact le _
theorem Fo.id (ns:List (α×List Nat)) (P:List (Nat×Nat)):Fo ns P (λx=>x):=⟨⟨λ_=>Nat.le_refl _,λ_=>rfl⟩,λ_ _ _ _=>rfl⟩
theorem Fo.lnk {ns:List (α×List Nat)} {P:List (Nat×Nat)} {f:NF} (h:Fo ns P f) {a b:Nat} (e:∀g,Cl ns g->Re P g->Fi f g->g a=g b):Fo ns P (lnk f a b):=
  ⟨UE h.rp a b,λg c r=>lnk_fi (h.le g c r) (e g c r (h.le g c r))⟩
theorem Fo.mono {ns:List (α×List Nat)} {P P':List (Nat×Nat)} {f:NF} (h:Fo ns P f) (sub:∀p,p∈P->p∈P'):Fo ns P' f:=
  ⟨h.rp,λg c r=>h.le g c λa b m=>r a b (sub _ m)⟩
theorem Re.co {P:List (Nat×Nat)} {f g:NF} (h:Re P f) (c:Fi f g):Re P g:=λa b m=>by rw [<-c a,<-c b,h a b m]
theorem WP {f g:NF} (h:Fi f g) (l:List Nat):(l.map f).map g=l.map g:=by
  rw [List.map_map];exact List.map_congr_left λx _=>h x
noncomputable abbrev YI:=List (Nat×Nat)
noncomputable def XD (ws:YI):Prop:=∀p∈ws,p.2<p.1
noncomputable def ZY (ws:YI) (c:Nat):Option Nat:=(ws.find? λp=>decide (p.1=c)).map (·.2)
noncomputable def Ue (ws:YI):Nat->Nat->Nat
  | 0,c=>c
  | f+1,c=>match ZY ws c with
    | none=>c
    | some d=>Ue ws f d
noncomputable def fol (ws:YI) (c:Nat):Nat:=Ue ws c c
theorem YB {ws:YI} (h:XD ws) {c d:Nat} (e:ZY ws c=some d):d<c:=by
  unfold ZY at e;obtain ⟨p,hp,rfl⟩:=Option.map_eq_some_iff.mp e;have h1:=h p (List.mem_of_find?_eq_some hp);have h2:=List.find?_some hp;simp only [decide_eq_true_eq] at h2;lia
theorem U1 {ws:YI} (h:XD ws):∀(f g c:Nat),c<=f->c<=g->Ue ws f c=Ue ws g c
  | 0,g,c,hf,hg=>by
    have:c=0:=by lia
    subst this;cases g with
    | zero=>rfl
    | succ g=>
      unfold Ue;cases e:ZY ws 0 with
      | none=>rfl
      | some d=>have:=YB h e;lia
  | f+1,0,c,hf,hg=>by
    have:c=0:=by lia
    subst this;unfold Ue;cases e:ZY ws 0 with
    | none=>rfl
    | some d=>have:=YB h e;lia
  | f+1,g+1,c,hf,hg=>by
    unfold Ue;cases e:ZY ws c with
    | none=>rfl
    | some d=>have:=YB h e;exact U1 h f g d (by lia) (by lia)
theorem Xk {ws:YI} (h:XD ws) (c:Nat):fol ws c=match ZY ws c with | none=>c | some d=>fol ws d:=by
  unfold fol;cases c with
  | zero=>
    cases e:ZY ws 0 with
    | none=>rfl
    | some d=>have:=YB h e;lia
  | succ c=>
    rw [Ue];cases e:ZY ws (c+1) with
    | none=>rfl
    | some d=>have:=YB h e;exact U1 h _ _ _ (by lia) (Nat.le_refl _)
theorem fol_le {ws:YI} (h:XD ws) (c:Nat):fol ws c<=c:=by
  induction c using Nat.strongRecOn with
  | _ c ih=>
    rw [Xk h];cases e:ZY ws c with
    | none=>exact Nat.le_refl _
    | some d=>have:=YB h e;have:=ih d this;simp only;lia
theorem fol_fix {ws:YI} (h:XD ws) {c:Nat} (e:fol ws c=c):ZY ws c=none:=by
  rw [Xk h] at e;cases q:ZY ws c with
  | none=>rfl
  | some d=>rw [q] at e;have:=YB h q;have:=fol_le h d;simp only at e;lia
theorem XX {ws:YI} (h:XD ws) {c:Nat} (e:ZY ws c=none):fol ws c=c:=by rw [Xk h,e]
theorem UM {ws:YI} {hi lo c:Nat} (e:ZY ws hi=none):ZY (ws++[(hi,lo)]) c=if c=hi then some lo else ZY ws c:=by
  unfold ZY at e ⊢;rw [List.find?_append];by_cases q:c=hi
  · subst q;have:ws.find? (λp=>decide (p.1=c))=none:=by simpa using e
    simp [this]
  · have:¬ hi=c:=λh=>q h.symm;simp [q,this]
theorem Vc {ws:YI} (h:XD ws) {hi lo:Nat} (e:lo<hi):XD (ws++[(hi,lo)]):=by
  intro p hp;rcases List.mem_append.mp hp with q | q
  · exact h p q
  · simp only [List.mem_singleton] at q;subst q;exact e
theorem fol_snoc {ws:YI} (h:XD ws) {hi lo:Nat} (e:lo<hi) (h1:ZY ws hi=none) (h2:ZY ws lo=none) (c:Nat):fol (ws++[(hi,lo)]) c=if fol ws c=hi then lo else fol ws c:=by
  have h':=Vc h e;induction c using Nat.strongRecOn with
  | _ c ih=>
    rw [Xk h',UM h1];by_cases q:c=hi
    · subst q;rw [if_pos rfl];simp only;rw [XX h h1,if_pos rfl,ih lo e,XX h h2];by_cases r:lo=c
      · lia
      · rw [if_neg r]
    · rw [if_neg q];cases r:ZY ws c with
      | none=>rw [XX h r];simp only;rw [if_neg q]
      | some d=>
        simp only;rw [ih d (YB h r),Xk h c,r]
structure LJ (fb:NF) (ws:YI) (f:NF):Prop where
  ok:XD ws
  rb:Rp fb
  rp:Rp f
  eq:∀x,f x=fol ws (fb x)
theorem LJ.nil {fb:NF} (h:Rp fb):LJ fb [] fb:=⟨λp hp=>absurd hp List.not_mem_nil,h,h,λx=>(XX (λp hp=>absurd hp List.not_mem_nil) rfl).symm⟩
theorem LJ.root {fb f:NF} {ws:YI} (h:LJ fb ws f) (x:Nat):ZY ws (f x)=none:=by
  have e:=h.rp.2 x;rw [h.eq] at e;have h1:=fol_le h.ok (fb (f x));have h2:=h.rb.1 (f x);have h3:fb (f x)=f x:=by lia
  rw [h3] at e;exact fol_fix h.ok e
theorem LJ.lnk {fb f:NF} {ws:YI} (h:LJ fb ws f) {a b:Nat} (e:f a≠f b):LJ fb (ws++[(max (f a) (f b),min (f a) (f b))]) (lnk f a b):=by
  have r1:ZY ws (max (f a) (f b))=none:=by
    rcases Nat.le_total (f a) (f b) with r | r
    · rw [Nat.max_eq_right r];exact h.root b
    · rw [Nat.max_eq_left r];exact h.root a
  have r2:ZY ws (min (f a) (f b))=none:=by
    rcases Nat.le_total (f a) (f b) with r | r
    · rw [Nat.min_eq_left r];exact h.root a
    · rw [Nat.min_eq_right r];exact h.root b
  refine ⟨Vc h.ok (by lia),h.rb,UE h.rp a b,λx=>?_⟩;rw [fol_snoc h.ok (by lia) r1 r2,<-h.eq];rfl
noncomputable def Vz (ab:List Nat):Prop:=∀i,(h:i<ab.length)->ab[i]<=i
noncomputable def KB (ab:List Nat):Nat->Nat->Nat
  | 0,a=>a
  | f+1,a=>if ab.getD a a=a then a else KB ab f (ab.getD a a)
noncomputable def root (ab:List Nat) (a:Nat):Nat:=KB ab a a
theorem Q7 {ab:List Nat} (u:Vz ab):∀(f g a:Nat),a<=f->a<=g->KB ab f a=KB ab g a
  | 0,g,a,hf,hg=>by
    have:a=0:=by lia
    subst this;cases g with
    | zero=>rfl
    | succ g=>
      unfold KB;have h0:ab.getD 0 0=0:=by
        by_cases h:0<ab.length
        · have:=u 0 h;simp [List.getD,h];lia
        · simp [List.getD,h]
      rw [if_pos h0]
  | f+1,0,a,hf,hg=>by
    have:a=0:=by lia
    subst this;unfold KB;have h0:ab.getD 0 0=0:=by
      by_cases h:0<ab.length
      · have:=u 0 h;simp [List.getD,h];lia
      · simp [List.getD,h]
    rw [if_pos h0]
  | f+1,g+1,a,hf,hg=>by
    unfold KB;(set_option tactic.hygienic true in split)
    · rfl
    · rename_i hne;have hle:ab.getD a a<a:=by
        by_cases h:a<ab.length
        · have h1:=u a h;have h2:ab.getD a a=ab[a]:=by simp [List.getD,h]
          lia
        · exact absurd (by simp [List.getD,h]) hne
      exact Q7 u f g _ (by lia) (by lia)
theorem Xy {ab:List Nat} (u:Vz ab) (a:Nat):root ab a=if ab.getD a a=a then a else root ab (ab.getD a a):=by
  unfold root;cases a with
  | zero=>
    have h0:ab.getD 0 0=0:=by
      by_cases h:0<ab.length
      · have:=u 0 h;simp [List.getD,h];lia
      · simp [List.getD,h]
    rw [if_pos h0];rfl
  | succ a=>
    rw [KB];(set_option tactic.hygienic true in split)
    · rfl
    · rename_i hne;have hle:ab.getD (a+1) (a+1)<a+1:=by
        by_cases h:a+1<ab.length
        · have h1:=u (a+1) h;have h2:ab.getD (a+1) (a+1)=ab[a+1]:=by simp [List.getD,h]
          lia
        · exact absurd (by simp [List.getD,h]) hne
      exact Q7 u _ _ _ (by lia) (Nat.le_refl _)
theorem QP {ab:List Nat} (u:Vz ab) (a:Nat):ab.getD a a<=a:=by
  by_cases h:a<ab.length
  · have:=u a h;simp [List.getD,h];lia
  · simp [List.getD,h]
theorem root_le {ab:List Nat} (u:Vz ab) (a:Nat):root ab a<=a:=by
  induction a using Nat.strongRecOn with
  | _ a ih=>
    rw [Xy u];(set_option tactic.hygienic true in split)
    · exact Nat.le_refl _
    · rename_i h;have h1:=QP u a;have:=ih (ab.getD a a) (by lia);lia
theorem QH {ab:List Nat} (u:Vz ab) (a:Nat):ab.getD (root ab a) (root ab a)=root ab a:=by
  induction a using Nat.strongRecOn with
  | _ a ih=>
    rw [Xy u];(set_option tactic.hygienic true in split)
    · assumption
    · rename_i h;have h1:=QP u a;exact ih (ab.getD a a) (by lia)
theorem UT {ab:List Nat} (u:Vz ab) {a:Nat} (h:ab.getD a a=a):root ab a=a:=by rw [Xy u,if_pos h]
theorem root_rp {ab:List Nat} (u:Vz ab):Rp (root ab):=⟨root_le u,λx=>UT u (QH u x)⟩
end
set_option tactic.hygienic false
inductive G where
  | d | b | u | nl | nm | wl | dl | ab | lt | mg | ed | fo | kn | av | wt | ly | bn | td | wy
  | lot (i:Nat) | use (i:Nat) | tdl (i:Nat) | way (i:Nat) | x (n:Nat)
  deriving DecidableEq
theorem snn {α:Type} {a:α}:some a≠none:=λe=>by cases e
theorem gne {a b:G} (h:decide (a=b)=false):a≠b:=of_decide_eq_false h
noncomputable abbrev CT:=G->Option Zd
noncomputable abbrev Lay:=G->Addr
noncomputable def upd {β:Type} (f:G->β) (g:G) (v:β):G->β:=λk=>if k=g then v else f k
theorem Zn {β:Type} (f:G->β) (g:G) (v:β):upd f g v g=v:=by simp [upd]
theorem Zk {β:Type} {f:G->β} {g k:G} {v:β} (h:k≠g):upd f g v k=f k:=by simp [upd,h]
structure Own (σ:MH) (L:Lay) (C:CT):Prop where
  inj:∀g k,C g≠none->C k≠none->L g=L k->g=k
  get:∀g o,C g=some o->σ (L g)=some o
theorem Own.set {σ:MH} {L:Lay} {C:CT} (w:Own σ L C) {g:G} {o:Zd} (o':Zd) (h:C g=some o):Own (σ.set (L g) o') L (upd C g (some o')):=by
  refine ⟨λk k' h1 h2 e=>w.inj k k' ?_ ?_ e,λk q hk=>?_⟩
  · by_cases hg:k=g
    · subst hg;rw [h];simp
    · rwa [Zk hg] at h1
  · by_cases hg:k'=g
    · subst hg;rw [h];simp
    · rwa [Zk hg] at h2
  · by_cases hg:k=g
    · subst hg;rw [Zn] at hk;cases hk;exact MH.set_same ..
    · rw [Zk hg] at hk;rw [MH.set_ne λe=>hg (w.inj _ _ (by rw [hk];simp) (by rw [h];simp) e)];exact w.get k q hk
theorem Own.new {σ:MH} {L:Lay} {C:CT} (w:Own σ L C) {a:Addr} (ha:σ a=none) (g:G) (o:Zd):Own (σ.set a o) (upd L g a) (upd C g (some o)):=by
  have far:∀k,C k≠none->L k≠a:=λk hk e=>by
    cases q:C k with
    | none=>exact hk q
    | some o=>have:=w.get k o q;rw [e,ha] at this;cases this
  refine ⟨λk k' h1 h2 e=>?_,λk q hk=>?_⟩
  · by_cases hg:k=g
    · subst hg;rw [Zn] at e;by_cases hg':k'=k
      · exact hg'.symm
      · rw [Zk hg'] at h2 e;exact absurd e.symm (far k' h2)
    · rw [Zk hg] at h1 e;by_cases hg':k'=g
      · subst hg';rw [Zn] at e;exact absurd e (far k h1)
      · rw [Zk hg'] at h2 e;exact w.inj _ _ h1 h2 e
  · by_cases hg:k=g
    · subst hg;rw [Zn] at hk ⊢;cases hk;exact MH.set_same ..
    · rw [Zk hg] at hk ⊢;rw [MH.set_ne (far k (by rw [hk];simp))];exact w.get k q hk
theorem Own.ext {σ σ':MH} {L:Lay} {C:CT} (w:Own σ L C) (h:Ext σ σ'):Own σ' L C:=⟨w.inj,λg o e=>h _ _ (w.get g o e)⟩
theorem Own.garb {σ:MH} {L:Lay} {C:CT} (w:Own σ L C) {a:Addr} {o:Zd} (ha:σ a=none):Own (σ.set a o) L C:=w.ext (Ext.set ha)
theorem Own.drop {σ:MH} {L:Lay} {C:CT} (w:Own σ L C) (g:G):Own σ L (upd C g none):=by
  have le:∀k o,upd C g none k=some o->C k=some o:=λk o h=>by
    by_cases hg:k=g
    · subst hg;rw [Zn] at h;cases h
    · rwa [Zk hg] at h
  have le2:∀k,upd C g none k≠none->C k≠none:=λk h=>by
    cases q:upd C g none k with
    | none=>exact absurd q h
    | some o=>rw [le k o q];simp
  exact ⟨λk k' h1 h2 e=>w.inj k k' (le2 k h1) (le2 k' h2) e,λk o h=>w.get k o (le k o h)⟩
theorem Own.relay {σ:MH} {L L':Lay} {C:CT} (w:Own σ L C) (h:∀g,C g≠none->L' g=L g):Own σ L' C:=
  ⟨λg k a b e=>w.inj g k a b (by rw [<-h g a,<-h k b,e]),λg o e=>by rw [h g (by rw [e];simp)];exact w.get g o e⟩
theorem Own.eq {σ:MH} {L:Lay} {C C':CT} (w:Own σ L C) (h:∀g,C' g=C g):Own σ L C':=by
  have:C'=C:=funext h;rw [this];exact w
theorem Own.ne {σ:MH} {L:Lay} {C:CT} (w:Own σ L C) {g:G} {o:Zd} {a:Addr} (h:C g=some o) (ha:σ a=none):L g≠a:=λe=>by
  have:=w.get g o h;rw [e,ha] at this;cases this
noncomputable abbrev Zp:=Str×List Nat
noncomputable def Zz (nd:Zp):List Key:=.inl nd.1::nd.2.map λ(k:Nat)=>.inr (k:Int)
noncomputable def Zw (nd:Zp):V:=.tup ((Zz nd).map V.ofKey)
noncomputable def Za (l:List Nat):List V:=l.map λ(i:Nat)=>V.int i
noncomputable def Yu (l:List (Zp×Nat)):List (List Key×V):=l.map λp=>(Zz p.1,.int p.2)
noncomputable def Zb {β:Type} (l:List (Nat×β)) (i:Nat):Option β:=(l.find? λp=>decide (p.1=i)).map (·.2)
set_option genInjectivity false in
structure HS where
  nodes:List Zp
  wts:List Int
  dps:List Int
  ab:List Nat
  lots:List (List V)
  mgd:List V
  edges:List V
  forest:List V
  known:List (Zp×Nat)
  uses:List (Nat×List Nat)
  waits:List Nat
set_option genInjectivity false in
structure LI where
  under:Option Nat
  told:List (Nat×Nat)
  ways:YI
set_option genInjectivity false in
structure LS where
  many:Nat
  ls:List (Nat×LI)
set_option genInjectivity false in
structure Wd where
  h:Option HS:=none
  l:Option LS:=none
  ex:Nat->Option Zd:=λ_=>none
noncomputable def Zs:Option Nat->V
  | none=>.int (-1)
  | some i=>.int i
theorem underV_0:Zs none=.int (-1):=rfl
theorem underV_1 {i:Nat}:Zs (some i)=.int i:=rfl
noncomputable def Zh (p:Nat×Nat):V:=.tup [.int p.1,.int p.2]
noncomputable def XV (ws:YI):List (Key×V):=ws.map λp=>(Sum.inr (p.1:Int),V.int p.2)
noncomputable def Z3 (L:Lay) (w:Wd):CT
  | .d=>w.h.map λ_=>.flds 520 [.inst 306 (L .b),.inst 388 (L .u),.ref (L .ed),.ref (L .fo),.ref (L .kn),.ref (L .av),.ref (L .wt)]
  | .b=>w.h.map λ_=>.flds 306 [.ref (L .nl),.ref (L .nm),.ref (L .wl),.ref (L .dl)]
  | .u=>w.h.map λ_=>.flds 388 [.ref (L .ab),.ref (L .lt),.ref (L .mg)]
  | .nl=>w.h.map λh=>.list (h.nodes.map Zw)
  | .nm=>w.h.map λh=>.tdict (Yu h.nodes.zipIdx)
  | .wl=>w.h.map λh=>.list (h.wts.map .int)
  | .dl=>w.h.map λh=>.list (h.dps.map .int)
  | .ab=>w.h.map λh=>.list (Za h.ab)
  | .lt=>w.h.map λh=>.list ((List.range h.lots.length).map λi=>.ref (L (.lot i)))
  | .mg=>w.h.map λh=>.list h.mgd
  | .ed=>w.h.map λh=>.list h.edges
  | .fo=>w.h.map λh=>.list h.forest
  | .kn=>w.h.map λh=>.tdict (Yu h.known)
  | .av=>w.h.map λh=>.dict (h.uses.map λp=>(.inr (p.1:Int),.ref (L (.use p.1))))
  | .wt=>w.h.map λh=>.list (Za h.waits)
  | .ly=>w.l.map λl=>.flds 190 [.inst 520 (L .d),.ref (L .bn),.ref (L .td),.ref (L .wy),.int l.many]
  | .bn=>w.l.map λl=>.dict (l.ls.map λp=>(.inr (p.1:Int),Zs p.2.under))
  | .td=>w.l.map λl=>.dict (l.ls.map λp=>(.inr (p.1:Int),.ref (L (.tdl p.1))))
  | .wy=>w.l.map λl=>.dict (l.ls.map λp=>(.inr (p.1:Int),.ref (L (.way p.1))))
  | .lot i=>w.h.bind λh=>h.lots[i]?.map .list
  | .use i=>w.h.bind λh=>(Zb h.uses i).map λl=>.list (Za l)
  | .tdl i=>w.l.bind λl=>(Zb l.ls i).map λx=>.list (x.told.map Zh)
  | .way i=>w.l.bind λl=>(Zb l.ls i).map λx=>.dict (XV x.ways)
  | .x n=>w.ex n
theorem c_nl {L:Lay} {w:Wd}:Z3 L w .nl=w.h.map λh=>.list (h.nodes.map Zw):=rfl
theorem c_nm {L:Lay} {w:Wd}:Z3 L w .nm=w.h.map λh=>.tdict (Yu h.nodes.zipIdx):=rfl
theorem c_wl {L:Lay} {w:Wd}:Z3 L w .wl=w.h.map λh=>.list (h.wts.map .int):=rfl
theorem c_dl {L:Lay} {w:Wd}:Z3 L w .dl=w.h.map λh=>.list (h.dps.map .int):=rfl
theorem c_kn {L:Lay} {w:Wd}:Z3 L w .kn=w.h.map λh=>.tdict (Yu h.known):=rfl
theorem c_av {L:Lay} {w:Wd}:Z3 L w .av=w.h.map λh=>.dict (h.uses.map λp=>(.inr (p.1:Int),.ref (L (.use p.1)))):=rfl
theorem c_bn {L:Lay} {w:Wd}:Z3 L w .bn=w.l.map λl=>.dict (l.ls.map λp=>(.inr (p.1:Int),Zs p.2.under)):=rfl
theorem c_td {L:Lay} {w:Wd}:Z3 L w .td=w.l.map λl=>.dict (l.ls.map λp=>(.inr (p.1:Int),.ref (L (.tdl p.1)))):=rfl
theorem c_wy {L:Lay} {w:Wd}:Z3 L w .wy=w.l.map λl=>.dict (l.ls.map λp=>(.inr (p.1:Int),.ref (L (.way p.1)))):=rfl
theorem c_use {L:Lay} {w:Wd} {i:Nat}:Z3 L w (.use i)=w.h.bind λh=>(Zb h.uses i).map λl=>.list (Za l):=rfl
theorem c_tdl {L:Lay} {w:Wd} {i:Nat}:Z3 L w (.tdl i)=w.l.bind λl=>(Zb l.ls i).map λx=>.list (x.told.map Zh):=rfl
theorem c_way {L:Lay} {w:Wd} {i:Nat}:Z3 L w (.way i)=w.l.bind λl=>(Zb l.ls i).map λx=>.dict (XV x.ways):=rfl
theorem c_x {L:Lay} {w:Wd} {n:Nat}:Z3 L w (.x n)=w.ex n:=rfl
noncomputable abbrev Inv (σ:MH) (L:Lay) (w:Wd):Prop:=Own σ L (Z3 L w)
noncomputable def fixG:G->Bool
  | .lot _ | .use _ | .tdl _ | .way _=>false
  | _=>true
noncomputable def Z4 (w:Wd) (L L':Lay):Prop:=∀g,fixG g=true->Z3 L w g≠none->L' g=L g
theorem X0 {β γ:Type} {l:List (Nat×β)} {f:Nat×β->V} (i:Nat):Yo (l.map λp=>((Sum.inr (p.1:Int):Key),f p)) (.inr (i:Int))=(l.find? λp=>decide (p.1=i)).map f:=by
  induction l with
  | nil=>rfl
  | cons p r ih=>
    by_cases h:p.1=i
    · simp [Yo,h]
    · have h2:¬ ((Sum.inr (p.1:Int):Key)=Sum.inr (i:Int)):=by
        intro q;injection q with q;lia
      simp only [Yo,List.map_cons,List.find?_cons,h,h2,decide_false] at ih ⊢;exact ih
theorem ZP {β:Type} {l:List (Nat×β)} {i:Nat} {b:β} (h:Zb l i=some b):(i,b)∈l/\l.find? (λp=>decide (p.1=i))=some (i,b):=by
  unfold Zb at h;obtain ⟨p,hp,rfl⟩:=Option.map_eq_some_iff.mp h;have h1:=List.mem_of_find?_eq_some hp;have h2:=List.find?_some hp;simp only [decide_eq_true_eq] at h2;subst h2;exact ⟨h1,hp⟩
theorem Ym {β:Type} {l:List (Nat×β)} {i:Nat}:Zb l i=none ↔ ∀p∈l,p.1≠i:=by
  unfold Zb;simp
theorem J6 (ws:YI) (c:Nat):Yo (XV ws) (Sum.inr (c:Int))=(ZY ws c).map λ(d:Nat)=>V.int d:=by
  unfold XV ZY;rw [X0 (γ:=Nat)];simp [Option.map_map];rfl
theorem Kr {a b:Zp} (h:Zz a=Zz b):a=b:=by
  obtain ⟨o,ks⟩:=a;obtain ⟨o',ks'⟩:=b;simp only [Zz,List.cons.injEq,Sum.inl.injEq] at h;obtain ⟨rfl,h⟩:=h;have:ks=ks':=by
    induction ks generalizing ks' with
    | nil=>cases ks' with
      | nil=>rfl
      | cons _ _=>simp at h
    | cons k r ih=>cases ks' with
      | nil=>simp at h
      | cons k' r'=>
        simp only [List.map_cons,List.cons.injEq,Sum.inr.injEq] at h;rw [ih r' h.2];congr 1;lia
  rw [this]
noncomputable def Xm (l:List (Zp×Nat)) (nd:Zp):Option Nat:=(l.find? λp=>decide (p.1=nd)).map (·.2)
theorem Ji (l:List (Zp×Nat)) (nd:Zp):Yo (Yu l) (Zz nd)=(Xm l nd).map λ(i:Nat)=>V.int i:=by
  unfold Xm Yu Yo;induction l with
  | nil=>rfl
  | cons p r ih=>
    by_cases h:p.1=nd
    · simp [h]
    · have:¬ Zz p.1=Zz nd:=λq=>h (Kr q);simp only [List.map_cons,List.find?_cons,h,this,decide_false];exact ih
set_option tactic.hygienic false
section
variable {σ:MH} {L:Lay} {h:HS} {l:Option LS} {s:LS} {oh:Option HS} {ex:Nat->Option Zd}
theorem Inv.d (I:Inv σ L ⟨some h,l,ex⟩):σ (L .d)=some (.flds 520 [.inst 306 (L .b),.inst 388 (L .u),.ref (L .ed),.ref (L .fo),.ref (L .kn),.ref (L .av),.ref (L .wt)]):=I.get .d _ rfl
theorem Inv.b (I:Inv σ L ⟨some h,l,ex⟩):σ (L .b)=some (.flds 306 [.ref (L .nl),.ref (L .nm),.ref (L .wl),.ref (L .dl)]):=I.get .b _ rfl
theorem Inv.u (I:Inv σ L ⟨some h,l,ex⟩):σ (L .u)=some (.flds 388 [.ref (L .ab),.ref (L .lt),.ref (L .mg)]):=I.get .u _ rfl
theorem Inv.nl (I:Inv σ L ⟨some h,l,ex⟩):σ (L .nl)=some (.list (h.nodes.map Zw)):=I.get .nl _ rfl
theorem Inv.nm (I:Inv σ L ⟨some h,l,ex⟩):σ (L .nm)=some (.tdict (Yu h.nodes.zipIdx)):=I.get .nm _ rfl
theorem Inv.wl (I:Inv σ L ⟨some h,l,ex⟩):σ (L .wl)=some (.list (h.wts.map .int)):=I.get .wl _ rfl
theorem Inv.dl (I:Inv σ L ⟨some h,l,ex⟩):σ (L .dl)=some (.list (h.dps.map .int)):=I.get .dl _ rfl
theorem Inv.ab (I:Inv σ L ⟨some h,l,ex⟩):σ (L .ab)=some (.list (Za h.ab)):=I.get .ab _ rfl
theorem Inv.lt (I:Inv σ L ⟨some h,l,ex⟩):σ (L .lt)=some (.list ((List.range h.lots.length).map λi=>.ref (L (.lot i)))):=I.get .lt _ rfl
theorem Inv.mg (I:Inv σ L ⟨some h,l,ex⟩):σ (L .mg)=some (.list h.mgd):=I.get .mg _ rfl
theorem Inv.ed (I:Inv σ L ⟨some h,l,ex⟩):σ (L .ed)=some (.list h.edges):=I.get .ed _ rfl
theorem Inv.fo (I:Inv σ L ⟨some h,l,ex⟩):σ (L .fo)=some (.list h.forest):=I.get .fo _ rfl
theorem Inv.kn (I:Inv σ L ⟨some h,l,ex⟩):σ (L .kn)=some (.tdict (Yu h.known)):=I.get .kn _ rfl
theorem Inv.av (I:Inv σ L ⟨some h,l,ex⟩):σ (L .av)=some (.dict (h.uses.map λp=>(.inr (p.1:Int),.ref (L (.use p.1))))):=I.get .av _ rfl
theorem Inv.wt (I:Inv σ L ⟨some h,l,ex⟩):σ (L .wt)=some (.list (Za h.waits)):=I.get .wt _ rfl
theorem Inv.use (I:Inv σ L ⟨some h,l,ex⟩) {i:Nat} {ns:List Nat} (e:Zb h.uses i=some ns):σ (L (.use i))=some (.list (Za ns)):=I.get (.use i) _ (by show (Zb h.uses i).map _=_;rw [e];rfl)
theorem Inv.ly (I:Inv σ L ⟨oh,some s,ex⟩):σ (L .ly)=some (.flds 190 [.inst 520 (L .d),.ref (L .bn),.ref (L .td),.ref (L .wy),.int s.many]):=I.get .ly _ rfl
theorem Inv.bn (I:Inv σ L ⟨oh,some s,ex⟩):σ (L .bn)=some (.dict (s.ls.map λp=>(.inr (p.1:Int),Zs p.2.under))):=I.get .bn _ rfl
theorem Inv.td (I:Inv σ L ⟨oh,some s,ex⟩):σ (L .td)=some (.dict (s.ls.map λp=>(.inr (p.1:Int),.ref (L (.tdl p.1))))):=I.get .td _ rfl
theorem Inv.wy (I:Inv σ L ⟨oh,some s,ex⟩):σ (L .wy)=some (.dict (s.ls.map λp=>(.inr (p.1:Int),.ref (L (.way p.1))))):=I.get .wy _ rfl
theorem Inv.tdl (I:Inv σ L ⟨oh,some s,ex⟩) {i:Nat} {x:LI} (e:Zb s.ls i=some x):σ (L (.tdl i))=some (.list (x.told.map Zh)):=I.get (.tdl i) _ (by show (Zb s.ls i).map _=_;rw [e];rfl)
theorem Inv.way (I:Inv σ L ⟨oh,some s,ex⟩) {i:Nat} {x:LI} (e:Zb s.ls i=some x):σ (L (.way i))=some (.dict (XV x.ways)):=I.get (.way i) _ (by show (Zb s.ls i).map _=_;rw [e];rfl)
theorem Inv.x {wd:Wd} (I:Inv σ L wd) {n:Nat} {o:Zd} (e:wd.ex n=some o):σ (L (.x n))=some o:=I.get (.x n) _ e
theorem Inv.garb {wd:Wd} (I:Inv σ L wd) {a:Addr} {o:Zd} (ha:σ a=none):Inv (σ.set a o) L wd:=Own.garb I ha
noncomputable def exS (ex:Nat->Option Zd) (n:Nat) (o:Option Zd):Nat->Option Zd:=λk=>if k=n then o else ex k
theorem Zr (ex:Nat->Option Zd) (n:Nat) (o:Option Zd):exS ex n o n=o:=by simp [exS]
theorem Zj {ex:Nat->Option Zd} {n k:Nat} {o:Option Zd} (h:k≠n):exS ex n o k=ex k:=by simp [exS,h]
theorem Qf {ex:Nat->Option Zd} {n:Nat} {o:Option Zd} (h:ex n=none):exS (exS ex n o) n none=ex:=by
  funext k;by_cases e:k=n
  · subst e;simp [exS,h]
  · simp [exS,e]
theorem UZ {ex:Nat->Option Zd} {n:Nat} {o o':Option Zd}:exS (exS ex n o) n o'=exS ex n o':=by
  funext k;by_cases e:k=n <;> simp [exS,e]
theorem ct_x {L:Lay} {oh:Option HS} {l:Option LS} {ex:Nat->Option Zd} {n:Nat} {a:Addr} {o:Zd} (k:G):Z3 (upd L (.x n) a) ⟨oh,l,exS ex n (some o)⟩ k=upd (Z3 L ⟨oh,l,ex⟩) (.x n) (some o) k:=by
  cases k <;> first | exact rfl | simp [c_x,upd,exS]
theorem Inv.newX (I:Inv σ L ⟨oh,l,ex⟩) {a:Addr} (ha:σ a=none) (n:Nat) (o:Zd):Inv (σ.set a o) (upd L (.x n) a) ⟨oh,l,exS ex n (some o)⟩:=
  (Own.new I ha (.x n) o).eq ct_x
theorem Inv.setX (I:Inv σ L ⟨oh,l,ex⟩) {n:Nat} {o:Zd} (o':Zd) (e:ex n=some o):Inv (σ.set (L (.x n)) o') L ⟨oh,l,exS ex n (some o')⟩:=by
  have:=Own.set I (g:=.x n) o' e;refine this.eq λk=>?_;cases k <;> first | exact rfl | simp [c_x,upd,exS]
theorem Inv.dropX (I:Inv σ L ⟨oh,l,ex⟩) (n:Nat):Inv σ L ⟨oh,l,exS ex n none⟩:=by
  have:=Own.drop I (.x n);refine this.eq λk=>?_;cases k <;> first | exact rfl | simp [c_x,upd,exS]
theorem Z4.x {wd:Wd} {L L':Lay} (f:Z4 wd L L') {n:Nat} {o:Zd} (e:wd.ex n=some o):L' (.x n)=L (.x n):=f (.x n) rfl (by show wd.ex n≠none;rw [e];simp)
theorem Z4.newX {a:Addr} {n:Nat} (hn:ex n=none):Z4 ⟨oh,l,ex⟩ L (upd L (.x n) a):=λg hg hc=>Zk λe=>by subst e;exact hc hn
theorem Z4.trans {w w':Wd} {L L' L'':Lay} (a:Z4 w L L') (b:Z4 w' L' L'') (sub:∀g,fixG g=true->Z3 L w g≠none->Z3 L' w' g≠none):Z4 w L L'':=
  λg hg hc=>(b g hg (sub g hg hc)).trans (a g hg hc)
noncomputable def Live (w w':Wd):Prop:=(w.h.isSome=true->w'.h.isSome=true)/\(w.l.isSome=true->w'.l.isSome=true)/\∀n,w.ex n≠none->w'.ex n≠none
theorem mapNe {α β:Type} {o o':Option α} {f f':α->β} (k:o.isSome=true->o'.isSome=true) (h:o.map f≠none):o'.map f'≠none:=λe=>h (by
  cases o' with
  | some x=>exact absurd e snn
  | none=>cases o with
    | none=>rfl
    | some y=>exact absurd (k rfl) Bool.false_ne_true)
theorem Live.ct {w w':Wd} (v:Live w w') {L L':Lay} {g:G} (hg:fixG g=true) (h:Z3 L w g≠none):Z3 L' w' g≠none:=by
  cases g <;> first | exact mapNe v.1 h | exact mapNe v.2.1 h | exact v.2.2 _ h | exact absurd hg Bool.false_ne_true
theorem Z4.then {w w':Wd} {L L' L'':Lay} (a:Z4 w L L') (b:Z4 w' L' L'') (v:Live w w'):Z4 w L L'':=a.trans b λ_ hg h=>v.ct hg h
theorem YY (nd:Zp):Zw nd=.tup (.str nd.1::Za nd.2):=by
  simp only [Zw,Zz,Za,List.map_cons,List.map_map];rfl
structure HOk (h:HS):Prop where
  up:Vz h.ab
  len:h.ab.length=h.nodes.length
  small:h.nodes.length<=60
  kids:∀(i:Nat) (nd:Zp),h.nodes[i]?=some nd->nd.2.length<=4/\∀k∈nd.2,k<h.nodes.length
end
set_option tactic.hygienic false
noncomputable abbrev ZK:=List (Nat×LI)
structure LOk (s:LS):Prop where
  asc:(s.ls.map Prod.fst).Pairwise (· < ·)
  lt:∀p∈s.ls,p.1<s.many
  under:∀p∈s.ls,∀j,p.2.under=some j->j<p.1/\∃x,Zb s.ls j=some x
  ok:∀p∈s.ls,XD p.2.ways
  small:s.ls.length<=30
  many:s.many<=1000
noncomputable def isL (ls:ZK):Option Nat->Prop
  | none=>True
  | some i=>∃x,Zb ls i=some x
theorem LOk.below {s:LS} (k:LOk s) {i j:Nat} {x:LI} (e:Zb s.ls i=some x) (u:x.under=some j):j<i/\∃y,Zb s.ls j=some y:=k.under _ (ZP e).1 j u
theorem LOk.isU {s:LS} (k:LOk s) {i:Nat} {x:LI} (e:Zb s.ls i=some x):isL s.ls x.under:=by
  cases q:x.under with
  | none=>trivial
  | some j=>exact (k.below e q).2
noncomputable def YX (ls:ZK):Nat->Option Nat->List Nat
  | 0,_=>[]
  | _+1,none=>[]
  | f+1,some i=>match Zb ls i with
    | none=>[]
    | some x=>YX ls f x.under++[i]
noncomputable def rk:Option Nat->Nat
  | none=>0
  | some i=>i+1
noncomputable def ZU (ls:ZK) (o:Option Nat):List Nat:=YX ls (rk o) o
theorem Yh (ls:ZK) (f:Nat):YX ls f none=[]:=by cases f <;> rfl
theorem pathF_eq {s:LS} (k:LOk s):∀(f g:Nat) (o:Option Nat),rk o<=f->rk o<=g->YX s.ls f o=YX s.ls g o:=λf=>by
  induction f with
  | zero=>
    intro g o hf hg;cases o with
    | none=>rw [Yh,Yh]
    | some i=>simp [rk] at hf
  | succ f ih=>
   intro g o hf hg;cases o with
   | none=>rw [Yh,Yh]
   | some i=>
   cases g with
   | zero=>simp [rk] at hg
   | succ g=>
    unfold YX;cases e:Zb s.ls i with
    | none=>rfl
    | some x=>
      simp only;have:rk x.under<=i:=by
        cases q:x.under with
        | none=>simp [rk]
        | some j=>have:=(k.below e q).1;simp [rk];lia
      simp only [rk] at hf hg;rw [ih g x.under (by lia) (by lia)]
theorem YL (ls:ZK):ZU ls none=[]:=rfl
theorem YO {s:LS} (k:LOk s) {i:Nat} {x:LI} (e:Zb s.ls i=some x):ZU s.ls (some i)=ZU s.ls x.under++[i]:=by
  show YX s.ls (i+1) (some i)=_;unfold YX;rw [e];simp only;have:rk x.under<=i:=by
    cases q:x.under with
    | none=>simp [rk]
    | some j=>have:=(k.below e q).1;simp [rk];lia
  rw [pathF_eq k i (rk x.under) x.under this (Nat.le_refl _)];rfl
theorem X1 {s:LS} (k:LOk s):∀(i:Nat) {x:LI},Zb s.ls i=some x->∀j∈ZU s.ls (some i),j<=i/\∃y,Zb s.ls j=some y:=by
  intro i;induction i using Nat.strongRecOn with
  | _ i ih=>
    intro x e j hj;rw [YO k e] at hj;rcases List.mem_append.mp hj with h | h
    · cases q:x.under with
      | none=>rw [q,YL] at h;cases h
      | some u=>
        rw [q] at h;obtain ⟨lt,y,ey⟩:=k.below e q;have:=ih u lt ey j h;exact ⟨by lia,this.2⟩
    · simp only [List.mem_singleton] at h;subst h;exact ⟨Nat.le_refl _,x,e⟩
theorem Qw {s:LS} (k:LOk s):∀(i:Nat) {x:LI},Zb s.ls i=some x->∀j∈ZU s.ls (some i),∀m∈ZU s.ls (some j),m∈ZU s.ls (some i):=by
  intro i;induction i using Nat.strongRecOn with
  | _ i ih=>
    intro x e j hj m hm;have hj':=hj;rw [YO k e] at hj;rcases List.mem_append.mp hj with h | h
    · cases q:x.under with
      | none=>rw [q,YL] at h;cases h
      | some u=>
        rw [q] at h;obtain ⟨lt,y,ey⟩:=k.below e q;have:=ih u lt ey j h m hm;rw [YO k e,q];exact List.mem_append_left _ this
    · simp only [List.mem_singleton] at h;subst h;exact hm
theorem path_len {s:LS} (k:LOk s):∀(i:Nat) {x:LI},Zb s.ls i=some x->(ZU s.ls (some i)).length<=i+1:=by
  intro i;induction i using Nat.strongRecOn with
  | _ i ih=>
    intro x e;rw [YO k e];cases q:x.under with
    | none=>simp [YL]
    | some u=>
      obtain ⟨lt,y,ey⟩:=k.below e q;have:=ih u lt ey;simp;lia
noncomputable def Xf (ls:ZK) (i:Nat):YI:=(Zb ls i).elim [] (·.ways)
noncomputable def ZO (ls:ZK) (i:Nat):List (Nat×Nat):=(Zb ls i).elim [] (·.told)
noncomputable def Qo (ls:ZK) (p:List Nat) (c:Nat):Nat:=p.foldl (λc i=>fol (Xf ls i) c) c
noncomputable def fnd (ls:ZK) (h:NF) (o:Option Nat):NF:=λn=>Qo ls (ZU ls o) (h n)
theorem KU (ls:ZK) (h:NF):fnd ls h none=h:=rfl
theorem Qd {s:LS} (k:LOk s) {h:NF} {i:Nat} {x:LI} (e:Zb s.ls i=some x) (n:Nat):fnd s.ls h (some i) n=fol x.ways (fnd s.ls h x.under n):=by
  unfold fnd Qo;rw [YO k e,List.foldl_append];simp [Xf,e]
noncomputable def ZV (ls:ZK) (P:List (Nat×Nat)) (o:Option Nat):List (Nat×Nat):=P++(ZU ls o).flatMap (ZO ls)
theorem Xa (ls:ZK) (P:List (Nat×Nat)):ZV ls P none=P:=by simp [ZV,YL]
theorem Yt {s:LS} (k:LOk s) {P:List (Nat×Nat)} {i:Nat} {x:LI} (e:Zb s.ls i=some x):ZV s.ls P (some i)=ZV s.ls P x.under++x.told:=by
  unfold ZV;rw [YO k e,List.flatMap_append,<-List.append_assoc];simp [ZO,e]
noncomputable def Xw (ls:ZK) (i:Nat) (f:LI->LI):ZK:=ls.map λp=>if p.1=i then (p.1,f p.2) else p
theorem Qu (ls:ZK) (i:Nat) (f:LI->LI):(Xw ls i f).map Prod.fst=ls.map Prod.fst:=by
  unfold Xw;rw [List.map_map];apply List.map_congr_left;intro p _;simp only [Function.comp];(set_option tactic.hygienic true in split) <;> rfl
theorem YN {ls:ZK} {i j:Nat} {f:LI->LI}:Zb (Xw ls i f) j=if j=i then (Zb ls j).map f else Zb ls j:=by
  unfold Zb Xw;induction ls with
  | nil=>simp
  | cons p r ih=>
    by_cases h:p.1=i
    · by_cases hj:p.1=j
      · have:j=i:=by lia
        subst this;simp [h]
      · have:¬ j=i:=by lia
        simp only [this,if_false] at ih ⊢;simp only [List.map_cons,h,if_true];have hj':¬ i=j:=by lia
        simp only [List.find?_cons,h,hj',decide_false];exact ih
    · by_cases hj:p.1=j
      · have:¬ j=i:=by lia
        simp [h,hj,this]
      · simp only [List.map_cons,h,if_false,List.find?_cons,hj,decide_false];exact ih
theorem modL_ok {s:LS} (k:LOk s) {i:Nat} {f:LI->LI} (hu:∀x,(f x).under=x.under) (hw:∀x,Zb s.ls i=some x->XD (f x).ways):LOk ⟨s.many,Xw s.ls i f⟩:=by
  have nd:∀p∈s.ls,Zb s.ls p.1=some p.2:=by
    have:∀(l:ZK),(l.map Prod.fst).Pairwise (· < ·)->∀p∈l,Zb l p.1=some p.2:=by
      intro l;induction l with
      | nil=>intro _ p hp;cases hp
      | cons q r ih=>
        intro h p hp;simp only [List.map_cons,List.pairwise_cons] at h;rcases List.mem_cons.mp hp with rfl | hp
        · simp [Zb]
        · have:q.1<p.1:=h.1 p.1 (List.mem_map_of_mem hp);have hn:¬ q.1=p.1:=by lia
          have:=ih h.2 p hp;simp only [Zb,List.find?_cons,hn,decide_false] at this ⊢;exact this
    exact this s.ls k.asc
  refine ⟨by rw [Qu];exact k.asc,?_,?_,?_,by simp [Xw];exact k.small,k.many⟩
  · intro p hp;obtain ⟨q,hq,rfl⟩:=List.mem_map.mp hp;have:=k.lt q hq;(set_option tactic.hygienic true in split) <;> exact this
  · intro p hp j hj;obtain ⟨q,hq,rfl⟩:=List.mem_map.mp hp;have e:q.2.under=some j:=by
      (set_option tactic.hygienic true in split at hj)
      · rwa [hu] at hj
      · exact hj
    obtain ⟨h1,x,h2⟩:=k.under q hq j e;refine ⟨by (set_option tactic.hygienic true in split) <;> exact h1,?_⟩;simp only [YN];(set_option tactic.hygienic true in split)
    · exact ⟨f x,by rw [h2];rfl⟩
    · exact ⟨x,h2⟩
  · intro p hp;obtain ⟨q,hq,rfl⟩:=List.mem_map.mp hp;(set_option tactic.hygienic true in split)
    · rename_i e;exact hw q.2 (by rw [<-e];exact nd q hq)
    · exact k.ok q hq
theorem LOk.get {s:LS} (k:LOk s):∀p∈s.ls,Zb s.ls p.1=some p.2:=by
  have:∀(l:ZK),(l.map Prod.fst).Pairwise (· < ·)->∀p∈l,Zb l p.1=some p.2:=by
    intro l;induction l with
    | nil=>intro _ p hp;cases hp
    | cons q r ih=>
      intro h p hp;simp only [List.map_cons,List.pairwise_cons] at h;rcases List.mem_cons.mp hp with rfl | hp
      · simp [Zb]
      · have:q.1<p.1:=h.1 p.1 (List.mem_map_of_mem hp);have hn:¬ q.1=p.1:=by lia
        have:=ih h.2 p hp;simp only [Zb,List.find?_cons,hn,decide_false] at this ⊢;exact this
  exact this s.ls k.asc
theorem UG {ls:ZK} {i:Nat} {f:LI->LI} (hu:∀x,(f x).under=x.under):∀(g:Nat) (o:Option Nat),YX (Xw ls i f) g o=YX ls g o:=λg=>by
  induction g with
  | zero=>intro o;cases o <;> rfl
  | succ g ih=>
   intro o;cases o with
   | none=>rw [Yh,Yh]
   | some j=>
    unfold YX;rw [YN];by_cases h:j=i
    · rw [if_pos h];cases e:Zb ls j with
      | none=>rfl
      | some x=>simp only [Option.map_some];rw [hu,ih]
    · rw [if_neg h];cases e:Zb ls j with
      | none=>rfl
      | some x=>simp only;rw [ih]
theorem Kh {ls:ZK} {i:Nat} {f:LI->LI} (hu:∀x,(f x).under=x.under) (o:Option Nat):ZU (Xw ls i f) o=ZU ls o:=UG hu _ o
theorem QQ {ls:ZK} {i j:Nat} {f:LI->LI} (h:j≠i\/∀x,(f x).ways=x.ways):Xf (Xw ls i f) j=Xf ls j:=by
  unfold Xf;rw [YN];by_cases e:j=i
  · rw [if_pos e];have:=h.resolve_left (λq=>q e);cases Zb ls j with
    | none=>rfl
    | some x=>exact this x
  · rw [if_neg e]
theorem Qp {ls:ZK} {i j:Nat} {f:LI->LI} (h:j≠i\/∀x,(f x).told=x.told):ZO (Xw ls i f) j=ZO ls j:=by
  unfold ZO;rw [YN];by_cases e:j=i
  · rw [if_pos e];have:=h.resolve_left (λq=>q e);cases Zb ls j with
    | none=>rfl
    | some x=>exact this x
  · rw [if_neg e]
theorem Vn {ls:ZK} {h:NF} {i:Nat} {f:LI->LI} (hu:∀x,(f x).under=x.under) {o:Option Nat} (hw:i∉ZU ls o\/∀x,(f x).ways=x.ways):fnd (Xw ls i f) h o=fnd ls h o:=by
  funext n;unfold fnd Qo;rw [Kh hu];have:∀(p:List Nat) (c:Nat),(∀j∈p,j≠i\/∀x,(f x).ways=x.ways)->p.foldl (λc i_1=>fol (Xf (Xw ls i f) i_1) c) c=p.foldl (λc i=>fol (Xf ls i) c) c:=by
    intro p;induction p with
    | nil=>intros;rfl
    | cons j r ih=>
      intro c hp;rw [List.foldl_cons,QQ (hp j List.mem_cons_self),ih _ λq hq=>hp q (List.mem_cons_of_mem _ hq)];rfl
  exact this _ _ λj hj=>hw.elim (λq=>.inl λe=>q (e▸hj)) .inr
theorem Uv {ls:ZK} {P:List (Nat×Nat)} {i:Nat} {f:LI->LI} (hu:∀x,(f x).under=x.under) {o:Option Nat} (hw:i∉ZU ls o\/∀x,(f x).told=x.told):ZV (Xw ls i f) P o=ZV ls P o:=by
  unfold ZV;rw [Kh hu];congr 1;have:∀(p:List Nat),(∀j∈p,j≠i\/∀x,(f x).told=x.told)->p.flatMap (ZO (Xw ls i f))=p.flatMap (ZO ls):=by
    intro p;induction p with
    | nil=>intros;rfl
    | cons j r ih=>
      intro hp;rw [List.flatMap_cons,List.flatMap_cons,Qp (hp j List.mem_cons_self),ih λq hq=>hp q (List.mem_cons_of_mem _ hq)]
  exact this _ λj hj=>hw.elim (λq=>.inl λe=>q (e▸hj)) .inr
noncomputable def Yp (ls:ZK) (i:Nat) (ws:YI):ZK:=Xw ls i λx=>{ x with ways:=ws }
noncomputable def Xl (ls:ZK) (i:Nat) (p:Nat×Nat):ZK:=Xw ls i λx=>{ x with told:=x.told++[p] }
set_option tactic.hygienic false
section
variable {σ:MH} {L:Lay} {s:LS} {oh:Option HS} {ex:Nat->Option Zd}
theorem JP {β:Type} {ls:ZK} {i:Nat} {f:LI->LI} {g:Nat×LI->β} (h:∀j x,g (j,f x)=g (j,x)):(Xw ls i f).map g=ls.map g:=by
  unfold Xw;rw [List.map_map];apply List.map_congr_left;intro p _;simp only [Function.comp];(set_option tactic.hygienic true in split)
  · rename_i e;exact h _ _
  · rfl
theorem Y8 {ls:ZK} {i j:Nat} {ws:YI}:Zb (Yp ls i ws) j=if j=i then (Zb ls j).map (λx=>{ x with ways:=ws }) else Zb ls j:=YN
theorem Inv.setWay (I:Inv σ L ⟨oh,some s,ex⟩) {i:Nat} {x:LI} (e:Zb s.ls i=some x) (ws:YI):Inv (σ.set (L (.way i)) (.dict (XV ws))) L ⟨oh,some ⟨s.many,Yp s.ls i ws⟩,ex⟩:=by
  refine (Own.set I (g:=.way i) (.dict (XV ws)) (by show (Zb s.ls i).map _=_;rw [e];rfl)).eq λg=>?_;have hm:∀{β:Type} {g:Nat×LI->β},(∀j x,g (j,{ x with ways:=ws })=g (j,x))->(Yp s.ls i ws).map g=s.ls.map g:=λh=>JP h;cases g with
  | bn=>simp only [c_bn,upd,reduceCtorEq,if_false,Option.map_some];rw [hm λ_ _=>rfl]
  | td=>simp only [c_td,upd,reduceCtorEq,if_false,Option.map_some];rw [hm λ_ _=>rfl]
  | wy=>simp only [c_wy,upd,reduceCtorEq,if_false,Option.map_some];rw [hm λ_ _=>rfl]
  | tdl j=>
    simp only [c_tdl,upd,reduceCtorEq,if_false,Option.bind_some,Y8];(set_option tactic.hygienic true in split)
    · simp [Option.map_map];rfl
    · rfl
  | way j=>
    simp only [c_way,upd,Option.bind_some,Y8,G.way.injEq];(set_option tactic.hygienic true in split)
    · rename_i q;subst q;rw [e];rfl
    · rfl
  | _=>rfl
theorem dput_wy {ls:ZK} {i D:Addr} {L:Lay} (h:∃x,Zb ls i=some x):YU (ls.map λp=>((Sum.inr (p.1:Int):Key),V.ref (L (.way p.1)))) (.inr (i:Int)) (.ref D)=ls.map λp=>((Sum.inr (p.1:Int):Key),V.ref (upd L (.way i) D (.way p.1))):=by
  obtain ⟨x,hx⟩:=h;have hm:=(ZP hx).1;unfold YU;rw [if_pos,List.map_map]
  · apply List.map_congr_left;intro p _;simp only [Function.comp,upd,G.way.injEq];by_cases q:p.1=i
    · simp [q]
    · have:¬ ((Sum.inr (p.1:Int):Key)=Sum.inr (i:Int)):=by intro r;injection r with r;lia
      simp [q,this]
  · simp only [List.any_map,List.any_eq_true];exact ⟨_,hm,by simp⟩
theorem Inv.newWay (I:Inv σ L ⟨oh,some s,ex⟩) {i:Nat} {x:LI} (e:Zb s.ls i=some x) {D:Addr} (hD:σ D=none) :
    Inv ((σ.set D (.dict [])).set (L .wy) (.dict (YU (s.ls.map λp=>((Sum.inr (p.1:Int):Key),V.ref (L (.way p.1)))) (.inr (i:Int)) (.ref D)))) (upd L (.way i) D) ⟨oh,some ⟨s.many,Yp s.ls i []⟩,ex⟩:=by
  have O1:=Own.new I hD (.way i) (.dict []);have O2:=Own.set O1 (g:=.wy) (.dict (YU (s.ls.map λp=>((Sum.inr (p.1:Int):Key),V.ref (L (.way p.1)))) (.inr (i:Int)) (.ref D))) rfl;rw [show upd L (.way i) D .wy=L .wy from Zk (gne rfl)] at O2;refine O2.eq λg=>?_;have hm:∀{β:Type} {g:Nat×LI->β},(∀j x,g (j,{ x with ways:=[] })=g (j,x))->(Yp s.ls i []).map g=s.ls.map g:=λh=>JP h;cases g with
  | bn=>simp only [c_bn,upd,reduceCtorEq,if_false,Option.map_some];rw [hm λ_ _=>rfl]
  | td=>simp only [c_td,upd,reduceCtorEq,if_false,Option.map_some];rw [hm λ_ _=>rfl]
  | wy=>
    rw [Zn,dput_wy ⟨x,e⟩];simp only [c_wy,Option.map_some];rw [hm λ_ _=>rfl]
  | tdl j=>
    simp only [c_tdl,upd,reduceCtorEq,if_false,Option.bind_some,Y8];(set_option tactic.hygienic true in split)
    · simp [Option.map_map];rfl
    · rfl
  | way j=>
    simp only [c_way,upd,Option.bind_some,Y8,G.way.injEq,reduceCtorEq,if_false];(set_option tactic.hygienic true in split)
    · rename_i q;subst q;rw [e];rfl
    · rfl
  | _=>rfl
theorem Inv.addTold (I:Inv σ L ⟨oh,some s,ex⟩) {i:Nat} {x:LI} (e:Zb s.ls i=some x) (p:Nat×Nat):Inv (σ.set (L (.tdl i)) (.list (x.told.map Zh++[Zh p]))) L ⟨oh,some ⟨s.many,Xl s.ls i p⟩,ex⟩:=by
  refine (Own.set I (g:=.tdl i) (.list (x.told.map Zh++[Zh p])) (by show (Zb s.ls i).map _=_;rw [e];rfl)).eq λg=>?_;have hm:∀{β:Type} {g:Nat×LI->β},(∀j (x:LI),g (j,{ x with told:=x.told++[p] })=g (j,x))->(Xl s.ls i p).map g=s.ls.map g:=λh=>JP h;have ha:∀j,Zb (Xl s.ls i p) j=if j=i then (Zb s.ls j).map (λx=>{ x with told:=x.told++[p] }) else Zb s.ls j:=λj=>YN
  cases g with
  | bn=>simp only [c_bn,upd,reduceCtorEq,if_false,Option.map_some];rw [hm λ_ _=>rfl]
  | td=>simp only [c_td,upd,reduceCtorEq,if_false,Option.map_some];rw [hm λ_ _=>rfl]
  | wy=>simp only [c_wy,upd,reduceCtorEq,if_false,Option.map_some];rw [hm λ_ _=>rfl]
  | way j=>
    simp only [c_way,upd,reduceCtorEq,if_false,Option.bind_some,ha];(set_option tactic.hygienic true in split)
    · simp [Option.map_map];rfl
    · rfl
  | tdl j=>
    simp only [c_tdl,upd,Option.bind_some,ha,G.tdl.injEq];(set_option tactic.hygienic true in split)
    · rename_i q;subst q;rw [e];simp
    · rfl
  | _=>rfl
theorem wayEs_put {ws:YI} {hi lo:Nat} (h:ZY ws hi=none):YU (XV ws) (.inr (hi:Int)) (.int lo)=XV (ws++[(hi,lo)]):=by
  unfold YU;rw [if_neg]
  · simp [XV]
  · have:=J6 ws hi;rw [h,Option.map_none] at this;unfold Yo at this;simp only [Option.map_eq_none_iff,List.find?_eq_none,decide_eq_true_eq] at this;simp only [List.any_eq_true,decide_eq_true_eq,not_exists,not_and];exact this
end
set_option tactic.hygienic false
theorem Wr {l:List (Zp×Nat)} {k:Zp} {m:Nat} (h:Xm l k=some m):(k,m)∈l:=by
  unfold Xm at h;obtain ⟨p,hp,rfl⟩:=Option.map_eq_some_iff.mp h;have h1:=List.mem_of_find?_eq_some hp;have h2:=List.find?_some hp;simp only [decide_eq_true_eq] at h2;subst h2;exact h1
theorem Wi {l:List (Zp×Nat)} {k k':Zp} {m:Nat}:Xm (l++[(k',m)]) k=match Xm l k with | some a=>some a | none=>if k'=k then some m else none:=by
  unfold Xm;rw [List.find?_append];cases h:l.find? (λp=>decide (p.1=k)) with
  | some a=>simp
  | none=>
    by_cases q:k'=k <;> simp [q]
structure CO (ns:List Zp) (f:NF) (k:Nat) (f1:NF) (kn:List (Zp×Nat)) (t:Bool):Prop where
  rp0:Rp f
  rp:Rp f1
  le:∀g,Cl ns g->Fi f g->Fi f1 g
  co:Fi f f1
  len:kn.length<=k
  k1:∀key m,(key,m)∈kn->m<k/\∃nd,ns[m]?=some nd/\key.1=nd.1/\∀g,Fi f1 g->key.2.map g=nd.2.map g
  k2:t=false->∀m nd,m<k->ns[m]?=some nd->∃m',Xm kn (nd.1,nd.2.map f)=some m'/\f m'=f m
  tt:t=true->cnt ns.length f1<cnt ns.length f
  tf:t=false->f1=f
theorem CO.start {ns:List Zp} {f:NF} (h:Rp f):CO ns f 0 f [] false:=
  ⟨h,h,λ_ _ q=>q,h.2,Nat.le_refl _,λ_ _ q=>absurd q List.not_mem_nil,λ_ _ _ q=>absurd q (Nat.not_lt_zero _),λq=>(nomatch q),λ_=>rfl⟩
theorem CO.step {ns:List Zp} {f f1:NF} {k:Nat} {kn kn':List (Zp×Nat)} {t:Bool} (c:CO ns f k f1 kn t) {nd:Zp} (hn:ns[k]?=some nd) {o:Nat}
    (h:(Xm kn (nd.1,nd.2.map f1)=some o/\kn'=kn)\/(Xm kn (nd.1,nd.2.map f1)=none/\o=k/\kn'=kn++[((nd.1,nd.2.map f1),k)])) :
    o<ns.length/\CO ns f (k+1) (lnk f1 o k) kn' (t||!decide (f1 o=f1 k)):=by
  have hk:k<ns.length:=(List.getElem?_eq_some_iff.mp hn).1;have fc:∀g,Cl ns g->Fi f1 g->g o=g k:=by
    intro g cg fg;rcases h with ⟨h1,_⟩ | ⟨_,rfl,_⟩
    · obtain ⟨_,nd',hm,h2,h3⟩:=c.k1 _ _ (Wr h1);refine cg o k nd' nd hm hn h2.symm ?_;rw [<-h3 g fg,WP fg]
    · rfl
  have ho:o<k+1:=by
    rcases h with ⟨h1,_⟩ | ⟨_,rfl,_⟩
    · have:=(c.k1 _ _ (Wr h1)).1;lia
    · lia
  have cof:=Jz c.rp o k;have back:∀g,Fi (lnk f1 o k) g->Fi f1 g:=λg q=>cof.trans q;refine ⟨by lia,c.rp0,UE c.rp o k,λg cg fg=>lnk_fi (c.le g cg fg) (fc g cg (c.le g cg fg)),c.co.trans cof,?_,?_,?_,?_,?_⟩
  · rcases h with ⟨_,rfl⟩ | ⟨_,_,rfl⟩
    · have:=c.len;lia
    · have:=c.len;simp;lia
  · intro key m hm;have old:(key,m)∈kn->m<k+1/\∃nd,ns[m]?=some nd/\key.1=nd.1/\∀g,Fi (lnk f1 o k) g->key.2.map g=nd.2.map g:=λq=>by
      obtain ⟨a,nd',b,d,e⟩:=c.k1 key m q;exact ⟨by lia,nd',b,d,λg fg=>e g (back g fg)⟩
    rcases h with ⟨_,rfl⟩ | ⟨_,_,rfl⟩
    · exact old hm
    · rcases List.mem_append.mp hm with q | q
      · exact old q
      · simp only [List.mem_singleton,Prod.mk.injEq] at q;obtain ⟨rfl,rfl⟩:=q;exact ⟨by lia,nd,hn,rfl,λg fg=>WP (back g fg) _⟩
  · intro ht;simp only [Bool.or_eq_false_iff,Bool.not_eq_false',decide_eq_true_eq] at ht;obtain ⟨ht,he⟩:=ht;have ff:=c.tf ht;subst ff;intro m nd' hm hnd;rcases Nat.lt_succ_iff_lt_or_eq.mp hm with q | rfl
    · obtain ⟨m',a,b⟩:=c.k2 ht m nd' q hnd;refine ⟨m',?_,b⟩;rcases h with ⟨_,rfl⟩ | ⟨_,_,rfl⟩
      · exact a
      · rw [Wi,a]
    · rw [hn] at hnd;cases hnd;refine ⟨o,?_,he⟩;rcases h with ⟨h1,rfl⟩ | ⟨h1,rfl,rfl⟩
      · exact h1
      · rw [Wi,h1];simp
  · intro ht;have hle:=cnt_le (n:=ns.length) c.rp0 c.rp c.co;by_cases he:f1 o=f1 k
    · rw [J9 he];simp only [he,decide_true,Bool.not_true,Bool.or_false] at ht;exact c.tt ht
    · have:=WO c.rp (show o<ns.length by lia) hk he;lia
  · intro ht;simp only [Bool.or_eq_false_iff,Bool.not_eq_false',decide_eq_true_eq] at ht;rw [J9 ht.2];exact c.tf ht.1
theorem CO.fin {ns:List Zp} {f f1:NF} {kn:List (Zp×Nat)} {t:Bool} (c:CO ns f ns.length f1 kn t):t=false->f1=f/\Cl ns f:=by
  intro ht;refine ⟨c.tf ht,λi j a b hi hj h1 h2=>?_⟩;obtain ⟨m,a1,a2⟩:=c.k2 ht i a (List.getElem?_eq_some_iff.mp hi).1 hi;obtain ⟨m',b1,b2⟩:=c.k2 ht j b (List.getElem?_eq_some_iff.mp hj).1 hj;rw [h1,h2,b1] at a1;cases a1;rw [<-a2,<-b2]
theorem XC {k n:Nat} {x:V} {rest:List V} (h:Za (List.range' k (n-k))=x::rest):k<n/\x=.int k/\rest=Za (List.range' (k+1) (n-(k+1))):=by
  by_cases q:k<n
  · have:n-k=(n-(k+1))+1:=by lia
    rw [this,List.range'_succ] at h;simp only [Za,List.map_cons,List.cons.injEq] at h;exact ⟨q,h.1.symm,h.2.symm⟩
  · have:n-k=0:=by lia
    rw [this] at h;simp [Za] at h
theorem VK {k n:Nat} (h:Za (List.range' k (n-k))=[]):n<=k:=by
  simp [Za] at h;lia
theorem XU (n:Nat):((List.range n).map λ(i:Nat)=>V.int i)=Za (List.range' 0 (n-0)):=by rw [List.range_eq_range'];rfl
section
variable {σ:MH} {L:Lay} {l:Option LS} {oh:Option HS} {ex:Nat->Option Zd}
theorem Inv.unX {n:Nat} {D:Addr} (I:Inv σ (upd L (.x n) D) ⟨oh,l,ex⟩) (h:ex n=none):Inv σ L ⟨oh,l,ex⟩:=by
  have:=Own.relay I (L':=L) λg hg=>(Zk λe=>by subst e;exact hg h).symm;refine this.eq λg=>?_;cases g <;> rfl
theorem Inv.closeX {n:Nat} {D:Addr} {o:Option Zd} (I:Inv σ (upd L (.x n) D) ⟨oh,l,exS ex n o⟩) (h:ex n=none):Inv σ L ⟨oh,l,ex⟩:=by
  have:=Inv.dropX I n;rw [UZ] at this;have e:exS ex n none=ex:=by
    funext k;by_cases q:k=n
    · subst q;simp [exS,h]
    · simp [exS,q]
  rw [e] at this;exact this.unX h
theorem Inv.x' {n:Nat} {o:Zd} (I:Inv σ L ⟨oh,l,exS ex n (some o)⟩):σ (L (.x n))=some o:=I.get (.x n) _ (Zr ..)
theorem Inv.openX (I:Inv σ L ⟨oh,l,ex⟩) {D:Addr} (hD:σ D=none) (n:Nat) (hn:ex n=none) (o:Zd):∃L2:Lay,Inv (σ.set D o) L2 ⟨oh,l,exS ex n (some o)⟩/\L2 (.x n)=D/\(∀g,g≠.x n->L2 g=L g)/\∀σ' oh' l' o',Inv σ' L2 ⟨oh',l',exS ex n o'⟩->Inv σ' L ⟨oh',l',ex⟩:=
  ⟨upd L (.x n) D,I.newX hD n o,Zn ..,λg hg=>Zk hg,λσ' oh' l' o' I'=>I'.closeX hn⟩
end
noncomputable def Xo (g:Nat->Nat):V->V
  | .int j=>.int (g j.toNat)
  | v=>v
theorem XH {g:Nat->Nat} {j:Int}:Xo g (.int j)=.int (g j.toNat):=rfl
theorem Yv (g:Nat->Nat) (l:List Nat):(Za l).map (Xo g)=Za (l.map g):=by
  unfold Za;rw [List.map_map,List.map_map];apply List.map_congr_left;intro x _;simp [XH]
theorem Yi {v:V} {l:List Nat} (h:v∈Za l):∃k∈l,v=.int k:=by
  obtain ⟨k,hk,rfl⟩:=List.mem_map.mp h;exact ⟨k,hk,rfl⟩
theorem X7 {s:LS} (K:LOk s) {hf:NF} {i:Nat} {x:LI} (hx:Zb s.ls i=some x) {ws:YI} {f:NF} (J:LJ (fnd s.ls hf x.under) ws f) :
    LOk ⟨s.many,Yp s.ls i ws⟩/\Zb (Yp s.ls i ws) i=some { x with ways:=ws }/\fnd (Yp s.ls i ws) hf x.under=fnd s.ls hf x.under/\fnd (Yp s.ls i ws) hf (some i)=f:=by
  have K':LOk ⟨s.many,Yp s.ls i ws⟩:=modL_ok K (λ_=>rfl) (λ_ _=>J.ok);have hx':Zb (Yp s.ls i ws) i=some { x with ways:=ws }:=by rw [Y8,if_pos rfl,hx];rfl
  have hu:fnd (Yp s.ls i ws) hf x.under=fnd s.ls hf x.under:=Vn (f:=λy=>{ y with ways:=ws }) (λ_=>rfl) (.inl (by
    cases q:x.under with
    | none=>simp [YL]
    | some u=>
      obtain ⟨lt,y,hy⟩:=K.below hx q;intro hm;have:=(X1 K u hy i hm).1;lia))
  refine ⟨K',hx',hu,?_⟩;funext n;rw [Qd K' hx',J.eq];simp only;rw [hu]
theorem Kt (ls:ZK) (i:Nat) (a b:YI):Yp (Yp ls i a) i b=Yp ls i b:=by
  unfold Yp Xw;rw [List.map_map];apply List.map_congr_left;intro p _;simp only [Function.comp];(set_option tactic.hygienic true in split)
  · rename_i h;simp [h]
  · rename_i h;simp [h]
set_option tactic.hygienic false
theorem JY {js ks:List Int} (hp:js.Perm ks) (hs:js.Pairwise (·<=·)) (hl:ks.Pairwise (·<=·)):js=ks:=
  hp.eq_of_pairwise (λx y _ _ h1 h2=>Int.le_antisymm h1 h2) hs hl
theorem Jr {js ks:List Int} (h1:js.Nodup) (h2:ks.Nodup) (hs:js.Pairwise (·<=·)) (hl:ks.Pairwise (·<=·)) (h:∀k,k∈js ↔ k∈ks):js=ks:=
  JY ((List.perm_ext_iff_of_nodup h1 h2).2 h) hs hl
theorem Qv {l:List Nat} (h:l.Pairwise (· < ·)):(l.map λ(i:Nat)=>(i:Int)).Pairwise (·<=·):=by
  rw [List.pairwise_map];exact h.imp (λq=>by lia)
noncomputable def ZE (ls:ZK):List (Nat×Option Nat×List (Nat×Nat)):=ls.map λp=>(p.1,p.2.under,p.2.told)
theorem Jj (ls:ZK) (i:Nat) (ws:YI):ZE (Yp ls i ws)=ZE ls:=JP λ_ _=>rfl
theorem Vo {ls ls':ZK} (h:ZE ls=ZE ls') (i:Nat):(Zb ls i).map (λx=>(x.under,x.told))=(Zb ls' i).map (λx=>(x.under,x.told)):=by
  have key:∀l:ZK,(Zb l i).map (λx=>(x.under,x.told))=((ZE l).find? λp=>decide (p.1=i)).map (·.2):=by
    intro l;unfold Zb ZE;rw [List.find?_map];cases e:l.find? (λp=>decide (p.1=i)) with
    | none=>
      have:List.find? ((λp:Nat×Option Nat×List (Nat×Nat)=>decide (p.1=i)) ∘ λp:Nat×LI=>(p.1,p.2.under,p.2.told)) l=none:=e;rw [this];rfl
    | some q=>
      have:List.find? ((λp:Nat×Option Nat×List (Nat×Nat)=>decide (p.1=i)) ∘ λp:Nat×LI=>(p.1,p.2.under,p.2.told)) l=some q:=e;rw [this];rfl
  rw [key,key,h]
theorem Y7 {ls ls':ZK} (h:ZE ls=ZE ls') {i:Nat} {x:LI} (e:Zb ls i=some x):∃x',Zb ls' i=some x'/\x'.under=x.under/\x'.told=x.told:=by
  have:=Vo h i;rw [e] at this;cases q:Zb ls' i with
  | none=>rw [q] at this;cases this
  | some x'=>
    rw [q] at this;simp only [Option.map_some,Option.some.injEq,Prod.mk.injEq] at this;exact ⟨x',rfl,this.1.symm,this.2.symm⟩
theorem Wx {ls ls':ZK} (h:ZE ls=ZE ls') (o:Option Nat):ZU ls o=ZU ls' o:=by
  have:∀(f:Nat) (o:Option Nat),YX ls f o=YX ls' f o:=by
    intro f;induction f with
    | zero=>intro o;rfl
    | succ f ih=>
      intro o;cases o with
      | none=>rfl
      | some i=>
        unfold YX;have:=Vo h i;cases e:Zb ls i with
        | none=>
          rw [e] at this;have:Zb ls' i=none:=by simpa using this.symm
          rw [this]
        | some x=>
          obtain ⟨x',e',hu,_⟩:=Y7 h e;rw [e'];simp only;rw [hu,ih]
  exact this _ o
theorem core_told {ls ls':ZK} (h:ZE ls=ZE ls') (i:Nat):ZO ls i=ZO ls' i:=by
  unfold ZO;have:=Vo h i;cases e:Zb ls i with
  | none=>
    rw [e] at this;have:Zb ls' i=none:=by simpa using this.symm
    rw [this]
  | some x=>
    obtain ⟨x',e',_,ht⟩:=Y7 h e;rw [e'];exact ht.symm
theorem Wn {ls ls':ZK} (h:ZE ls=ZE ls') (P:List (Nat×Nat)) (o:Option Nat):ZV ls P o=ZV ls' P o:=by
  unfold ZV;rw [Wx h];congr 1;have:∀p:List Nat,p.flatMap (ZO ls)=p.flatMap (ZO ls'):=by
    intro p;induction p with
    | nil=>rfl
    | cons a r ih=>rw [List.flatMap_cons,List.flatMap_cons,core_told h,ih]
  exact this _
structure LV (ns:List Zp) (P:List (Nat×Nat)) (hf:NF) (ls:ZK) (bad:Nat->Prop):Prop where
  base:Lst ns P hf
  each:∀i x,Zb ls i=some x->¬ bad i->Lst ns (ZV ls P (some i)) (fnd ls hf (some i))
noncomputable abbrev Xi:Nat->Prop:=λ_=>False
theorem LV.at {ns:List Zp} {P:List (Nat×Nat)} {hf:NF} {ls:ZK} (v:LV ns P hf ls Xi) {o:Option Nat} (ho:isL ls o):Lst ns (ZV ls P o) (fnd ls hf o):=by
  cases o with
  | none=>rw [Xa,KU];exact v.base
  | some i=>obtain ⟨x,hx⟩:=ho;exact v.each i x hx id
theorem LV.under {ns:List Zp} {P:List (Nat×Nat)} {hf:NF} {s:LS} {i:Nat} {rest:List Nat} (v:LV ns P hf s.ls (·∈i::rest)) (K:LOk s) {x:LI} (hx:Zb s.ls i=some x) (asc:(i::rest).Pairwise (· < ·)) :
    Lst ns (ZV s.ls P x.under) (fnd s.ls hf x.under):=by
  cases q:x.under with
  | none=>rw [Xa,KU];exact v.base
  | some u=>
    obtain ⟨lt,y,hy⟩:=K.below hx q;refine v.each u y hy λhm=>?_;rcases List.mem_cons.mp hm with rfl | hm
    · lia
    · have:=(List.pairwise_cons.mp asc).1 u hm;lia
theorem LV.step {ns:List Zp} {P:List (Nat×Nat)} {hf:NF} {s:LS} {i:Nat} {rest:List Nat} (v:LV ns P hf s.ls (·∈i::rest)) (K:LOk s) {x:LI} (hx:Zb s.ls i=some x)
    (up:∀j y,Zb s.ls j=some y->i∈ZU s.ls (some j)->j=i\/j∈rest) {ws:YI} {f':NF} (J:LJ (fnd s.ls hf x.under) ws f') (h:Lst ns (ZV s.ls P x.under++x.told) f'):LV ns P hf (Yp s.ls i ws) (·∈rest):=by
  obtain ⟨K',hx',hu',hf'⟩:=X7 K hx J;refine ⟨v.base,λj y hy hb=>?_⟩;by_cases e:j=i
  · subst e;rw [hf',Wn (Jj s.ls j ws),Yt K hx];exact h
  · have hy0:∃y0,Zb s.ls j=some y0:=by
      rw [Y8,if_neg e] at hy;exact ⟨y,hy⟩
    obtain ⟨y0,hy0⟩:=hy0;have hni:i∉ZU s.ls (some j):=λhm=>(up j y0 hy0 hm).elim e hb;rw [show fnd (Yp s.ls i ws) hf (some j)=fnd s.ls hf (some j) from Vn (f:=λy=>{ y with ways:=ws }) (λ_=>rfl) (.inl hni),Wn (Jj s.ls i ws)];exact v.each j y0 hy0 λhm=>(List.mem_cons.mp hm).elim e hb
theorem live_x {oh:Option HS} {l:Option LS} {h':HS} {s':LS} {ex:Nat->Option Zd} {n:Nat} {o:Zd}:Live ⟨oh,l,ex⟩ ⟨some h',some s',exS ex n (some o)⟩:=
  ⟨λ_=>rfl,λ_=>rfl,λk hk=>by
    by_cases q:k=n
    · subst q;show exS ex k (some o) k≠none;rw [Zr];simp
    · show exS ex n (some o) k≠none;rw [Zj q];exact hk⟩
theorem live_s {oh:Option HS} {l:Option LS} {h':HS} {s':LS} {ex:Nat->Option Zd}:Live ⟨oh,l,ex⟩ ⟨some h',some s',ex⟩:=⟨λ_=>rfl,λ_=>rfl,λ_ h=>h⟩
theorem Z4.x' {oh:Option HS} {l:Option LS} {ex:Nat->Option Zd} {n:Nat} {o:Zd} {L L':Lay} (f:Z4 ⟨oh,l,exS ex n (some o)⟩ L L'):L' (.x n)=L (.x n):=f.x (Zr ex n (some o))
set_option tactic.hygienic false
noncomputable def YM (s:LS) (i:Nat):List Nat:=(s.ls.map Prod.fst).filter λj=>decide (i∈ZU s.ls (some j))
theorem Kg {ls:ZK} {i j:Nat} {p:Nat×Nat}:Zb (Xl ls i p) j=if j=i then (Zb ls j).map (λx=>{ x with told:=x.told++[p] }) else Zb ls j:=YN
theorem addT_ok {s:LS} (K:LOk s) (i:Nat) (p:Nat×Nat):LOk ⟨s.many,Xl s.ls i p⟩:=
  modL_ok K (λ_=>rfl) (λx hx=>K.ok _ (ZP hx).1)
theorem Wq (ls:ZK) (i:Nat) (p:Nat×Nat) (o:Option Nat):ZU (Xl ls i p) o=ZU ls o:=Kh (f:=λx=>{ x with told:=x.told++[p] }) (λ_=>rfl) o
theorem Uc (ls:ZK) (hf:NF) (i:Nat) (p:Nat×Nat) (o:Option Nat):fnd (Xl ls i p) hf o=fnd ls hf o:=Vn (f:=λx=>{ x with told:=x.told++[p] }) (λ_=>rfl) (.inr λ_=>rfl)
theorem Jg (s:LS) (i:Nat) (p:Nat×Nat):YM ⟨s.many,Xl s.ls i p⟩ i=YM s i:=by
  unfold YM;simp only [Wq];rw [show (Xl s.ls i p).map Prod.fst=s.ls.map Prod.fst from Qu ..]
theorem LV.addNew {ns:List Zp} {P:List (Nat×Nat)} {hf:NF} {s:LS} (v:LV ns P hf s.ls Xi) (i:Nat) (p:Nat×Nat):LV ns P hf (Xl s.ls i p) (·∈YM s i):=by
  refine ⟨v.base,λj y hy hb=>?_⟩;have hy0:∃y0,Zb s.ls j=some y0:=by
    rw [Kg] at hy;(set_option tactic.hygienic true in split at hy)
    · obtain ⟨z,hz,_⟩:=Option.map_eq_some_iff.mp hy;exact ⟨z,hz⟩
    · exact ⟨y,hy⟩
  obtain ⟨y0,hy0⟩:=hy0;have hni:i∉ZU s.ls (some j):=λhm=>hb (List.mem_filter.mpr ⟨List.mem_map_of_mem (ZP hy0).1,by simpa using hm⟩);rw [Uc,show ZV (Xl s.ls i p) P (some j)=ZV s.ls P (some j) from Uv (f:=λx=>{ x with told:=x.told++[p] }) (λ_=>rfl) (.inl hni)];exact v.each j y0 hy0 id
theorem Wt {ls:ZK} {i:Nat} {x:LI} (hx:Zb ls i=some x) (p:Nat×Nat) (k:Nat) (q:Nat×Nat):q∈ZO (Xl ls i p) k ↔ q∈ZO ls k\/(k=i/\q=p):=by
  unfold ZO;rw [Kg];by_cases e:k=i
  · subst e;rw [if_pos rfl,hx];simp
  · rw [if_neg e];simp [e]
theorem V7 {ls:ZK} {i:Nat} {x:LI} (hx:Zb ls i=some x) (P:List (Nat×Nat)) (p:Nat×Nat) (o:Option Nat) (q:Nat×Nat):q∈ZV (Xl ls i p) P o ↔ q∈ZV ls P o\/(i∈ZU ls o/\q=p):=by
  unfold ZV;rw [Wq];simp only [List.mem_append,List.mem_flatMap,Wt hx];constructor
  · rintro (h | ⟨k,hk,h | ⟨rfl,rfl⟩⟩)
    · exact .inl (.inl h)
    · exact .inl (.inr ⟨k,hk,h⟩)
    · exact .inr ⟨hk,rfl⟩
  · rintro ((h | ⟨k,hk,h⟩) | ⟨h,rfl⟩)
    · exact .inl h
    · exact .inr ⟨k,hk,.inl h⟩
    · exact .inr ⟨i,h,.inr ⟨rfl,rfl⟩⟩
theorem down_sub {s:LS} (K:LOk s) {P:List (Nat×Nat)} {i j:Nat} {y:LI} (hy:Zb s.ls j=some y) (h:i∈ZU s.ls (some j)):∀q,q∈ZV s.ls P (some i)->q∈ZV s.ls P (some j):=by
  intro q hq;unfold ZV at hq ⊢;rcases List.mem_append.mp hq with a | a
  · exact List.mem_append_left _ a
  · obtain ⟨k,hk,hm⟩:=List.mem_flatMap.mp a;exact List.mem_append_right _ (List.mem_flatMap.mpr ⟨k,Qw K j hy i h k hk,hm⟩)
theorem LV.addOld {ns:List Zp} {P:List (Nat×Nat)} {hf:NF} {s:LS} (v:LV ns P hf s.ls Xi) (K:LOk s) {i:Nat} {x:LI} (hx:Zb s.ls i=some x) {a b:Nat} (e:fnd s.ls hf (some i) a=fnd s.ls hf (some i) b):LV ns P hf (Xl s.ls i (a,b)) Xi:=by
  refine ⟨v.base,λj y hy _=>?_⟩;have hy0:∃y0,Zb s.ls j=some y0:=by
    rw [Kg] at hy;(set_option tactic.hygienic true in split at hy)
    · obtain ⟨z,hz,_⟩:=Option.map_eq_some_iff.mp hy;exact ⟨z,hz⟩
    · exact ⟨y,hy⟩
  obtain ⟨y0,hy0⟩:=hy0;rw [Uc];have h1:=v.each j y0 hy0 id;refine h1.add (λq hq=>(V7 hx P _ _ q).2 (.inl hq)) λa' b' hm=>?_;rcases (V7 hx P _ _ _).1 hm with h | ⟨h,h2⟩
  · exact .inl h
  · cases h2;have co:=(v.each i x hx id).over h1 (down_sub K hy0 h);refine .inr ?_;rw [<-co a',<-co b',e]
theorem over_asc {s:LS} (K:LOk s) (i:Nat):(YM s i).Pairwise (· < ·):=K.asc.filter _
theorem over_up {s:LS} (K:LOk s) {i k j:Nat} {y:LI} (hk:k∈YM s i) (hy:Zb s.ls j=some y) (h:k∈ZU s.ls (some j)):j∈YM s i:=by
  unfold YM at hk ⊢;obtain ⟨_,h1⟩:=List.mem_filter.mp hk;refine List.mem_filter.mpr ⟨List.mem_map_of_mem (ZP hy).1,?_⟩;simp only [decide_eq_true_eq] at h1 ⊢;exact Qw K j hy k h i h1
theorem over_mem {s:LS} (K:LOk s) {i j:Nat} (h:j∈YM s i):∃y,Zb s.ls j=some y:=by
  obtain ⟨h,_⟩:=List.mem_filter.mp h;obtain ⟨p,hp,rfl⟩:=List.mem_map.mp h;exact ⟨_,K.get p hp⟩
set_option tactic.hygienic false
theorem Yx {β:Type} {l:List (Nat×β)} {k i:Nat} {b:β}:Zb (l++[(k,b)]) i=match Zb l i with | some x=>some x | none=>if k=i then some b else none:=by
  unfold Zb;rw [List.find?_append];cases h:l.find? (λp=>decide (p.1=i)) with
  | some a=>simp
  | none=>by_cases q:k=i <;> simp [q]
noncomputable def newL (s:LS) (o:Option Nat):LS:=⟨s.many+1,s.ls++[(s.many,⟨o,[],[]⟩)]⟩
theorem LOk.fresh {s:LS} (K:LOk s):Zb s.ls s.many=none:=by
  rw [Ym];intro p hp e;have:=K.lt p hp;lia
theorem Ka {s:LS} (K:LOk s) {o:Option Nat}:Zb (newL s o).ls s.many=some ⟨o,[],[]⟩:=by
  unfold newL;simp only;rw [Yx,K.fresh];simp
theorem JX {s:LS} {o:Option Nat} {j:Nat} (q:j≠s.many):Zb (newL s o).ls j=Zb s.ls j:=by
  unfold newL;simp only;rw [Yx,if_neg (Ne.symm q)];cases Zb s.ls j <;> rfl
theorem Ys {s:LS} {o:Option Nat} {i:Nat} {x:LI} (h:Zb s.ls i=some x):Zb (newL s o).ls i=some x:=by
  unfold newL;simp only;rw [Yx,h]
theorem KK {s:LS} (K:LOk s) {o:Option Nat} {i:Nat} {x:LI} (h:Zb (newL s o).ls i=some x):Zb s.ls i=some x\/(i=s.many/\x=⟨o,[],[]⟩):=by
  unfold newL at h;simp only at h;rw [Yx] at h;cases e:Zb s.ls i with
  | some y=>rw [e] at h;exact .inl h
  | none=>
    rw [e] at h;simp only at h;(set_option tactic.hygienic true in split at h)
    · rename_i q;cases h;exact .inr ⟨q.symm,rfl⟩
    · cases h
theorem WD {s:LS} (K:LOk s) {o:Option Nat} (ho:isL s.ls o) (h1:s.ls.length<30) (h2:s.many<1000):LOk (newL s o):=by
  refine ⟨?_,?_,?_,?_,by simp [newL];lia,by simp [newL];lia⟩
  · simp only [newL,List.map_append,List.map_cons,List.map_nil];refine List.pairwise_append.mpr ⟨K.asc,by simp,λa ha b hb=>?_⟩;obtain ⟨p,hp,rfl⟩:=List.mem_map.mp ha;simp only [List.mem_singleton] at hb;subst hb;exact K.lt p hp
  · intro p hp;simp only [newL,List.mem_append,List.mem_singleton] at hp ⊢;rcases hp with h | rfl
    · have:=K.lt p h;lia
    · simp
  · intro p hp j hj;simp only [newL,List.mem_append,List.mem_singleton] at hp;rcases hp with h | rfl
    · obtain ⟨a,y,b⟩:=K.under p h j hj;exact ⟨a,y,Ys b⟩
    · simp only at hj;subst hj;obtain ⟨y,hy⟩:=ho;exact ⟨K.lt _ (ZP hy).1,y,Ys hy⟩
  · intro p hp;simp only [newL,List.mem_append,List.mem_singleton] at hp;rcases hp with h | rfl
    · exact K.ok p h
    · exact λq hq=>absurd hq List.not_mem_nil
theorem We {s:LS} (K:LOk s) (o:Option Nat):∀(f:Nat) (q:Option Nat),isL s.ls q->YX (newL s o).ls f q=YX s.ls f q:=λf=>by
  induction f with
  | zero=>intro q _;cases q <;> rfl
  | succ f ih=>
   intro q h;cases q with
   | none=>rw [Yh,Yh]
   | some i=>
    obtain ⟨x,hx⟩:=h;unfold YX;rw [hx,Ys hx];simp only;rw [ih x.under (K.isU hx)]
theorem fold_newL {s:LS} {o:Option Nat}:∀(p:List Nat) (c:Nat),(∀i∈p,∃x,Zb s.ls i=some x)->Qo (newL s o).ls p c=Qo s.ls p c:=λp=>by
  induction p with
  | nil=>intros;rfl
  | cons i r ih=>
    intro c h;obtain ⟨x,hx⟩:=h i List.mem_cons_self;unfold Qo;rw [List.foldl_cons,List.foldl_cons];have:Xf (newL s o).ls i=Xf s.ls i:=by unfold Xf;rw [hx,Ys hx]
    rw [this];exact ih _ λj hj=>h j (List.mem_cons_of_mem _ hj)
theorem Q6 {s:LS} (K:LOk s) {q:Option Nat} (h:isL s.ls q):∀i∈ZU s.ls q,∃x,Zb s.ls i=some x:=by
  intro i hi;cases q with
  | none=>cases hi
  | some j=>obtain ⟨y,hy⟩:=h;exact (X1 K j hy i hi).2
theorem Qa {s:LS} (K:LOk s) {o q:Option Nat} (h:isL s.ls q) (hf:NF):fnd (newL s o).ls hf q=fnd s.ls hf q:=by
  funext n;unfold fnd ZU;rw [We K o _ q h];exact fold_newL _ _ (Q6 K h)
theorem Wj {s:LS} (K:LOk s) {o q:Option Nat} (h:isL s.ls q) (P:List (Nat×Nat)):ZV (newL s o).ls P q=ZV s.ls P q:=by
  unfold ZV;have e:ZU (newL s o).ls q=ZU s.ls q:=We K o _ q h;rw [e];congr 1;have:∀p:List Nat,(∀i∈p,∃x,Zb s.ls i=some x)->p.flatMap (ZO (newL s o).ls)=p.flatMap (ZO s.ls):=by
    intro p;induction p with
    | nil=>intros;rfl
    | cons i r ih=>
      intro h;obtain ⟨x,hx⟩:=h i List.mem_cons_self;have:ZO (newL s o).ls i=ZO s.ls i:=by unfold ZO;rw [hx,Ys hx]
      rw [List.flatMap_cons,List.flatMap_cons,this,ih λj hj=>h j (List.mem_cons_of_mem _ hj)]
  exact this _ (Q6 K h)
theorem LV.newL {ns:List Zp} {P:List (Nat×Nat)} {hf:NF} {s:LS} (v:LV ns P hf s.ls Xi) (K:LOk s) {o:Option Nat} (ho:isL s.ls o) (h1:s.ls.length<30) (h2:s.many<1000):LV ns P hf (newL s o).ls Xi:=by
  refine ⟨v.base,λi x hx _=>?_⟩;rcases KK K hx with h | ⟨rfl,rfl⟩
  · rw [Wj K (q:=some i) ⟨x,h⟩,Qa K (q:=some i) ⟨x,h⟩];exact v.each i x h id
  · have K':=WD K ho h1 h2;have hx':=Ka K (o:=o);rw [Yt K' hx'];have e:fnd (Mine.newL s o).ls hf (some s.many)=fnd s.ls hf o:=by
      funext n;rw [Qd K' hx',Qa K ho];exact XX (λp hp=>absurd hp List.not_mem_nil) rfl
    rw [e,Wj K ho,List.append_nil];exact v.at ho
theorem Inv.ext {σ σ2:MH} {L:Lay} {wd:Wd} (I:Inv σ L wd) (e:Ext σ σ2):Inv σ2 L wd:=Own.ext I e
set_option tactic.hygienic false
theorem Own.part {σ:MH} {L:Lay} {C:CT} (O:Own σ L C) {D:Addr} (hD:σ D=none) {g gd:G} (hne:gd≠g) {c:Addr} {ms:List V} (hc:C gd=some (.flds c ms)) (o:Zd) :
    ∃L':Lay,Own ((σ.set D o).set (L gd) (.flds c (ms++[.ref D]))) L' (upd (upd C g (some o)) gd (some (.flds c (ms++[.ref (L' g)]))))/\L' g=D/\∀k,k≠g->L' k=L k:=by
  have O1:=Own.new O hD g o;have O2:=Own.set O1 (g:=gd) (.flds c (ms++[.ref D])) (by rw [Zk hne];exact hc);rw [Zk hne] at O2;refine ⟨upd L g D,?_,Zn ..,λk hk=>Zk hk⟩;rw [Zn];exact O2
set_option tactic.hygienic false
noncomputable abbrev WV:=List (Nat×List Nat)
noncomputable def Yq (us:WV) (cs:List Nat) (n:Nat):WV:=us.map λp=>if p.1∈cs then (p.1,p.2++[n]) else p
theorem pushU_nil (us:WV) (n:Nat):Yq us [] n=us:=by unfold Yq;simp
theorem Un (us:WV) {cs:List Nat} {c n:Nat} (h:c∉cs):Yq (Yq us cs n) [c] n=Yq us (cs++[c]) n:=by
  unfold Yq;rw [List.map_map];apply List.map_congr_left;intro p _;simp only [Function.comp,List.mem_singleton,List.mem_append];by_cases q:p.1∈cs
  · have:p.1≠c:=λe=>h (e▸q);simp [q,this]
  · by_cases r:p.1=c
    · simp [h,r]
    · simp [q,r]
theorem pushU_fst (us:WV) (cs:List Nat) (n:Nat):(Yq us cs n).map Prod.fst=us.map Prod.fst:=by
  unfold Yq;rw [List.map_map];apply List.map_congr_left;intro p _;simp only [Function.comp];(set_option tactic.hygienic true in split) <;> rfl
theorem Jw {us:WV} {cs:List Nat} {n j:Nat}:Zb (Yq us cs n) j=(Zb us j).map λl=>if j∈cs then l++[n] else l:=by
  unfold Zb Yq;induction us with
  | nil=>rfl
  | cons p r ih=>
    by_cases hj:p.1=j
    · subst hj;by_cases q:p.1∈cs <;> simp [q]
    · have:¬ (if p.1∈cs then (p.1,p.2++[n]) else p).1=j:=by (set_option tactic.hygienic true in split) <;> exact hj
      simp only [List.map_cons,List.find?_cons,hj,this,decide_false];exact ih
section
variable {σ:MH} {L:Lay} {h:HS} {l:Option LS} {ex:Nat->Option Zd}
theorem pushU_map {β:Type} {us:WV} {cs:List Nat} {n:Nat} {g:Nat×List Nat->β} (h:∀j x y,g (j,x)=g (j,y)):(Yq us cs n).map g=us.map g:=by
  unfold Yq;rw [List.map_map];apply List.map_congr_left;intro p _;simp only [Function.comp];(set_option tactic.hygienic true in split)
  · exact h _ _ _
  · rfl
theorem Inv.setUse (I:Inv σ L ⟨some h,l,ex⟩) {c n:Nat} {us:List Nat} (e:Zb h.uses c=some us):Inv (σ.set (L (.use c)) (.list (Za us++[.int n]))) L ⟨some { h with uses:=Yq h.uses [c] n },l,ex⟩:=by
  refine (Own.set I (g:=.use c) (.list (Za us++[.int n])) (by show (Zb h.uses c).map _=_;rw [e];rfl)).eq λg=>?_;cases g with
  | av=>
    simp only [c_av,upd,reduceCtorEq,if_false,Option.map_some];rw [pushU_map (g:=λp=>((Sum.inr (p.1:Int):Key),V.ref (L (.use p.1)))) (λ_ _ _=>rfl)]
  | use j=>
    simp only [c_use,upd,Option.bind_some,Jw,G.use.injEq,List.mem_singleton];(set_option tactic.hygienic true in split)
    · rename_i q;subst q;rw [e];simp [Za]
    · simp [Option.map_map]
  | _=>rfl
theorem Inv.newUse (I:Inv σ L ⟨some h,l,ex⟩) {n:Nat} (e:Zb h.uses n=none) {D:Addr} (hD:σ D=none) :
    Inv ((σ.set D (.list [])).set (L .av) (.dict ((h.uses.map λp=>((Sum.inr (p.1:Int):Key),V.ref (L (.use p.1))))++[(.inr (n:Int),.ref D)]))) (upd L (.use n) D) ⟨some { h with uses:=h.uses++[(n,[])] },l,ex⟩:=by
  have O1:=Own.new I hD (.use n) (.list []);have O2:=Own.set O1 (g:=.av) (.dict ((h.uses.map λp=>((Sum.inr (p.1:Int):Key),V.ref (L (.use p.1))))++[(.inr (n:Int),.ref D)])) rfl;rw [show upd L (.use n) D .av=L .av from rfl] at O2;refine O2.eq λg=>?_;have hne:∀p∈h.uses,p.1≠n:=Ym.mp e;cases g with
  | av=>
    rw [Zn];simp only [c_av,Option.map_some,List.map_append,List.map_cons,List.map_nil,Zn];congr 3;exact List.map_congr_left λp hp=>by rw [Zk (by have:=hne p hp;simpa using this)]
  | use j=>
    simp only [c_use,Option.bind_some];by_cases q:j=n
    · subst q;rw [Zk (by simp),Zn,Yx,e];simp [Za]
    · rw [Zk (by simp),Zk (by simpa using q),Yx,if_neg (λe=>q e.symm)];simp only [c_use,Option.bind_some];cases Zb h.uses j <;> rfl
  | _=>rfl
end
structure H1 (h:HS):Prop where
  ab:h.ab=List.range h.nodes.length
  lots:h.lots.length=h.nodes.length
  wl:h.wts.length=h.nodes.length
  dl:h.dps.length=h.nodes.length
  nd:h.nodes.Nodup
  kids:∀(i:Nat) (nd:Zp),h.nodes[i]?=some nd->nd.2.length<=4/\∀k∈nd.2,k<i
  known:h.known=h.nodes.zipIdx
  keys:h.uses.map Prod.fst=List.range h.nodes.length
  usesLt:∀p∈h.uses,∀m∈p.2,m<h.nodes.length
  usesHas:∀(i:Nat) (nd:Zp),h.nodes[i]?=some nd->∀k∈nd.2,∃l,Zb h.uses k=some l/\i∈l
  usesLen:(h.uses.map λp=>p.2.length).sum<=h.nodes.length * h.nodes.length
  waits:h.waits=[]
  edges:h.edges=[]
  forest:h.forest=[]
  mgd:h.mgd=[]
  small:h.nodes.length<=60
  lz:∀vs∈h.lots,vs.length<=1
theorem QJ (n:Nat):Vz (List.range n):=λi h=>by simp
theorem Us (n a:Nat):root (List.range n) a=a:=by
  refine UT (QJ n) ?_;by_cases h:a<n <;> simp [List.getD,h]
theorem Qn (n:Nat):root (List.range n)=λx=>x:=funext (Us n)
theorem H1.ok {h:HS} (H:H1 h):HOk h:=
  ⟨by rw [H.ab];exact QJ _,by rw [H.ab];simp,H.small,λi nd hn=>⟨(H.kids i nd hn).1,λk hk=>by
    have:=(H.kids i nd hn).2 k hk;have:=(List.getElem?_eq_some_iff.mp hn).1;lia⟩⟩
theorem H1.root {h:HS} (H:H1 h):root h.ab=λx=>x:=by rw [H.ab];exact Qn _
theorem Wc (us:WV) (cs:List Nat) (n:Nat):((Yq us cs n).map λp=>p.2.length).sum<=(us.map λp=>p.2.length).sum+us.length:=by
  induction us with
  | nil=>simp [Yq]
  | cons p r ih=>
    unfold Yq at ih ⊢;simp only [List.map_cons,List.sum_cons,List.length_cons];have:(if p.1∈cs then (p.1,p.2++[n]) else p).2.length<=p.2.length+1:=by (set_option tactic.hygienic true in split) <;> simp
    lia
theorem H1.keyed {h:HS} (H:H1 h) {k:Nat} (hk:k<h.nodes.length):∃l,Zb h.uses k=some l:=by
  have:k∈h.uses.map Prod.fst:=by rw [H.keys];simpa using hk
  obtain ⟨p,hp,rfl⟩:=List.mem_map.mp this;cases e:Zb h.uses p.1 with
  | none=>exact absurd rfl (Ym.mp e p hp)
  | some l=>exact ⟨l,rfl⟩
theorem H1.unkeyed {h:HS} (H:H1 h):Zb h.uses h.nodes.length=none:=by
  rw [Ym];intro p hp e;have:p.1∈h.uses.map Prod.fst:=List.mem_map_of_mem hp;rw [H.keys,List.mem_range] at this;lia
theorem H1.add {h:HS} (H:H1 h) (hs:h.nodes.length<60) {nd:Zp} (hk:∀k∈nd.2,k<h.nodes.length) (hz:nd.2.length<=4) (new:nd∉h.nodes) {cs:List Nat} (hc:∀c,c∈cs ↔ c∈nd.2) (a b:Int) (v:List V) (hv:v.length<=1) :
    H1 { h with nodes:=h.nodes++[nd],wts:=h.wts++[a],dps:=h.dps++[b],ab:=h.ab++[h.ab.length],lots:=h.lots++[v],known:=h.known++[(nd,h.nodes.length)],uses:=Yq (h.uses++[(h.nodes.length,[])]) cs h.nodes.length } where
  ab:=by simp [H.ab,List.range_succ]
  lots:=by simp [H.lots]
  wl:=by simp [H.wl]
  dl:=by simp [H.dl]
  nd:=by
    refine List.nodup_append.mpr ⟨H.nd,by simp,λx hx y hy=>?_⟩;simp only [List.mem_singleton] at hy;subst hy;exact λe=>new (e▸hx)
  kids:=by
    intro i x hx;simp only at hx;rw [List.getElem?_append] at hx;(set_option tactic.hygienic true in split at hx)
    · exact H.kids i x hx
    · rename_i hi;have:i=h.nodes.length/\nd=x:=by
        by_cases q:i-h.nodes.length=0
        · rw [q] at hx;simp at hx;exact ⟨by lia,hx⟩
        · obtain ⟨m,hm⟩:=Nat.exists_eq_succ_of_ne_zero q;rw [hm] at hx;simp at hx
      obtain ⟨rfl,rfl⟩:=this;exact ⟨hz,hk⟩
  known:=by simp [H.known,List.zipIdx_append]
  keys:=by rw [pushU_fst];simp [H.keys,List.range_succ]
  usesLt:=by
    intro p hp m hm;unfold Yq at hp;obtain ⟨q,hq,rfl⟩:=List.mem_map.mp hp;have key:∀m∈q.2,m<h.nodes.length:=by
      rcases List.mem_append.mp hq with r | r
      · exact H.usesLt q r
      · simp only [List.mem_singleton] at r;subst r;intro m hm;cases hm
    simp only [List.length_append,List.length_singleton];(set_option tactic.hygienic true in split at hm)
    · simp only [List.mem_append,List.mem_singleton] at hm;rcases hm with r | rfl
      · have:=key m r;lia
      · lia
    · have:=key m hm;lia
  usesHas:=by
    intro i x hx k hkx;simp only at hx;rw [List.getElem?_append] at hx;simp only [Jw,Yx];(set_option tactic.hygienic true in split at hx)
    · obtain ⟨l,hl,hm⟩:=H.usesHas i x hx k hkx;rw [hl];refine ⟨_,rfl,?_⟩;(set_option tactic.hygienic true in split)
      · exact List.mem_append_left _ hm
      · exact hm
    · rename_i hi;have:i=h.nodes.length/\nd=x:=by
        by_cases q:i-h.nodes.length=0
        · rw [q] at hx;simp at hx;exact ⟨by lia,hx⟩
        · obtain ⟨m,hm⟩:=Nat.exists_eq_succ_of_ne_zero q;rw [hm] at hx;simp at hx
      obtain ⟨rfl,rfl⟩:=this;obtain ⟨l,hl⟩:=H.keyed (hk k hkx);rw [hl];refine ⟨_,rfl,?_⟩;simp [(hc k).2 hkx]
  usesLen:=by
    have h1:=Wc (h.uses++[(h.nodes.length,[])]) cs h.nodes.length;have h2:(h.uses++[(h.nodes.length,([]:List Nat))]).length=h.nodes.length+1:=by
      have:=congrArg List.length H.keys;simp at this;simp [this]
    have h3:=H.usesLen;simp only [List.map_append,List.sum_append,List.map_cons,List.map_nil,List.length_nil,List.sum_cons,List.sum_nil,Nat.add_zero] at h1;simp only [List.length_append,List.length_singleton];rw [h2] at h1;have:(h.nodes.length+1) * (h.nodes.length+1)=h.nodes.length * h.nodes.length+2 * h.nodes.length+1:=by
      rw [Nat.add_mul,Nat.mul_add];lia
    lia
  waits:=H.waits
  edges:=H.edges
  forest:=H.forest
  mgd:=H.mgd
  small:=by simp;lia
  lz:=λvs h1=>(List.mem_append.mp h1).elim (H.lz vs) λh2=>by rw [List.mem_singleton.mp h2];exact hv
theorem H1.empty:H1 ⟨[],[],[],[],[],[],[],[],[],[],[]⟩:=by
  refine ⟨rfl,rfl,rfl,rfl,List.nodup_nil,?_,rfl,rfl,?_,?_,by simp,rfl,rfl,rfl,rfl,by simp,λvs h=>by cases h⟩
  · intro i nd h;simp at h
  · intro p hp;simp at hp
  · intro i nd h;simp at h
theorem Ua {l:List Zp} {nd:Zp} {k:Nat}:(∀i,Xm (l.zipIdx k) nd=some i->l[i-k]?=some nd/\k<=i)/\(Xm (l.zipIdx k) nd=none->nd∉l):=by
  induction l generalizing k with
  | nil=>exact ⟨λi h=>by simp [Xm] at h,λ_ h=>by cases h⟩
  | cons a r ih=>
    unfold Xm at ih ⊢;rw [List.zipIdx_cons,List.find?_cons];by_cases q:a=nd
    · subst q;simp
    · simp only [q,decide_false,List.mem_cons,not_or];refine ⟨λi h=>?_,λh=>⟨λe=>q e.symm,(ih (k:=k+1)).2 h⟩⟩;obtain ⟨a1,a2⟩:=(ih (k:=k+1)).1 i h;refine ⟨?_,by lia⟩;have:i-k=(i-(k+1))+1:=by lia
      rw [this];simpa using a1
theorem ints_nats {js:List Int} (h:∀k∈js,0<=k):js.map V.int=Za (js.map Int.toNat):=by
  unfold Za;rw [List.map_map];apply List.map_congr_left;intro x hx;have:=h x hx;simp only [Function.comp,V.int.injEq];lia
set_option tactic.hygienic false
section
variable {S:Sys} {F:Frm} {n:Nat×Nat} {ρ:Rho} {σ:MH} {Q:V->MH->Prop} {X:MH->Prop}
theorem iT {a b:Prop} (h:a):if true=true then a else b:=h
theorem wi0 {Q:Bool->MH->Prop} (h:Q true σ):WIfs S F n [] ρ σ Q:=h
theorem itL {iter:Expr} {QI:List V->(MH->Prop)->Bool->MH->Prop} (h:WE S F n (eval iter F.env) ρ σ (λm σ1=>∃l vs,m=.ref l/\σ1 l=some (.list vs)/\QI vs (λσ'=>σ' l=some (.list vs)) false σ1) X):WIt S F n iter ρ σ QI X:=by
  refine WIt.of ?_;intro A s hR x;refine wpAny_mono (h A s hR x) ?_ (λ_ _ e=>e);rintro v s' ⟨m,σ',y,z,r,l,vs,rfl,hl,q⟩;exact ⟨_,σ',y,z,r,vs,_,false,mk_list hl,q⟩
theorem itT {iter:Expr} {QI:List V->(MH->Prop)->Bool->MH->Prop} (h:WE S F n (eval iter F.env) ρ σ (λm σ1=>∃vs,m=.tup vs/\QI vs (λ_=>True) false σ1) X):WIt S F n iter ρ σ QI X:=by
  refine WIt.of ?_;intro A s hR x;refine wpAny_mono (h A s hR x) ?_ (λ_ _ e=>e);rintro v s' ⟨m,σ',y,z,r,vs,rfl,q⟩;exact ⟨_,σ',y,z,r,vs,_,false,mk_tup,q⟩
theorem itR {iter:Expr} {QI:List V->(MH->Prop)->Bool->MH->Prop} (h:WE S F n (eval iter F.env) ρ σ (λm σ1=>∃b:Nat,m=.range 0 b/\b<=1000/\QI ((List.range b).map λ(i:Nat)=>V.int i) (λ_=>True) false σ1) X):WIt S F n iter ρ σ QI X:=by
  refine WIt.of ?_;intro A s hR x;refine wpAny_mono (h A s hR x) ?_ (λ_ _ e=>e);rintro v s' ⟨m,σ',y,z,r,b,rfl,hb,q⟩;refine ⟨_,σ',y,z,r,_,_,false,mk_range (by lia) (by lia) (by lia) (by lia),?_⟩;have:YC 0 ((b:Int)-0).toNat=(List.range b).map λ(i:Nat)=>V.int i:=by
    rw [YR,show ((b:Int)-0).toNat=b by lia,List.map_map];apply List.map_congr_left;intro i _;simp
  rw [this];exact q
theorem rCompI {elt iter:Expr} {tx:Str} {tp:Pos} {scope sc:Scope} {pos:Pos} (T:Option V->Rho)
    (hs:∀x,foldedSetIterable iter F.env x=pure x) (hsc:F.env.scope=sc) (hck:Y0 scope.names ρ sc=true) (hkind:scope.kind=.function) (hT0:ZB scope.names ρ=T none) (hT:∀o m,UpdR (T o) tx m (T (some m)))
    (hloc:∀Fc:Frm,Fc.env.scope=relabel scope (Zg sc)->Fc.env.kindOf tx=some .local)
    (h:WIt S F n iter ρ σ (λitems G pairs σ1=>pairs=false/\∀a,σ1 a=none->∃I:List V->List V->MH->Prop,I items [] (σ1.set a (.list []))/\(∀its acc σ',I its acc σ'->G σ'/\σ' a=some (.list acc))/\
      (∀Fc:Frm,Fc.env.scope=relabel scope (Zg sc)->Fc.isFn=false->∀x rest acc σ',I (x::rest) acc σ'->
        WE S Fc n (eval elt Fc.env) (T (some x)) σ' (λm σ4=>acc.length<=100000/\σ4 a=some (.list acc)/\I rest (acc++[m]) (σ4.set a (.list (acc++[m])))) noX)/\
      (∀acc σ',I [] acc σ'->Q (.ref a) σ')) X) :
    WE S F n (eval (.ListComp elt [⟨.Name tx tp,iter,[],0⟩] scope pos) F.env) ρ σ Q X:=by
  refine Wl hs hsc hck hkind ?_;intro A s P hR x k;refine h A s P hR x ?_;rintro items G pairs σ1 s1 J ⟨hp,hI⟩ y z e1 e2 hA hf;refine k items G pairs σ1 s1 J ⟨.inr ⟨rfl,hp⟩,λa ha=>?_⟩ y z e1 e2 hA hf;obtain ⟨I,i0,ig,it,iq⟩:=hI a ha;refine ⟨⟨λits acc ρ' σ'=>(∃o,ρ'=T o)/\I its acc σ',⟨⟨none,hT0⟩,i0⟩,λits acc ρ' σ' hi=>ig its acc σ' hi.2,?_,λacc ρ' σ' hi=>iq acc σ' hi.2⟩⟩;rintro Fc hFc hFn x rest acc ρ' σ' ⟨⟨o,rfl⟩,hi⟩;refine ZC (hT o x) (.inr (hloc Fc hFc)) ?_;refine wi0 (iT ?_);refine WE.conseq (it Fc hFc hFn x rest acc σ' hi) ?_;rintro m σ4 ⟨b,c,d⟩;exact ⟨σ4,Ext.refl _,b,c,⟨_,rfl⟩,d⟩
theorem Jc {elt iter:Expr} {tx:Str} {tp:Pos} {scope sc:Scope} {pos:Pos} (T:Option V->Rho)
    (hs:∀x,foldedSetIterable iter F.env x=pure x) (hsc:F.env.scope=sc) (hck:Y0 scope.names ρ sc=true) (hkind:scope.kind=.function) (hT0:ZB scope.names ρ=T none) (hT:∀o m,UpdR (T o) tx m (T (some m)))
    (hloc:∀Fc:Frm,Fc.env.scope=relabel scope (Zg sc)->Fc.env.kindOf tx=some .local)
    (h:WIt S F n iter ρ σ (λitems G pairs σ1=>pairs=false/\items.length<=100000/\(∀σ2,Ext σ1 σ2->G σ2)/\∃f:V->V,
      (∀Fc:Frm,Fc.env.scope=relabel scope (Zg sc)->Fc.isFn=false->∀x∈items,∀σ2,Ext σ1 σ2->WE S Fc n (eval elt Fc.env) (T (some x)) σ2 (λm σ4=>σ4=σ2/\m=f x) noX)/\
      ∀a,σ1 a=none->Q (.ref a) (σ1.set a (.list (items.map f)))) X) :
    WE S F n (eval (.ListComp elt [⟨.Name tx tp,iter,[],0⟩] scope pos) F.env) ρ σ Q X:=by
  refine rCompI T hs hsc hck hkind hT0 hT hloc ?_;intro A s P hR x k;refine h A s P hR x ?_;rintro items G pairs σ1 s1 J ⟨hp,hz,hG,f,hf,hq⟩ y z e1 e2 hA hfr;refine k items G pairs σ1 s1 J ⟨hp,λa ha=>?_⟩ y z e1 e2 hA hfr;refine ⟨λits acc σ'=>∃pre,items=pre++its/\acc=pre.map f/\σ'=σ1.set a (.list acc),⟨[],rfl,rfl,rfl⟩,?_,?_,?_⟩
  · rintro its acc σ' ⟨pre,_,_,rfl⟩;exact ⟨hG _ (Ext.set ha),MH.set_same ..⟩
  · rintro Fc hFc hFn x rest acc σ' ⟨pre,rfl,rfl,rfl⟩;refine WE.conseq (hf Fc hFc hFn x (by simp) _ (Ext.set ha)) ?_;rintro m σ4 ⟨rfl,rfl⟩;refine ⟨_,Ext.refl _,?_,MH.set_same ..,pre++[x],by simp,by simp,by simp [XO]⟩;simp only [List.length_append,List.length_map] at hz ⊢;lia
  · rintro acc σ' ⟨pre,h1,rfl,rfl⟩;simp only [List.append_nil] at h1;subst h1;exact hq a ha
theorem WC {elt iter c:Expr} {tx:Str} {tp:Pos} {scope sc:Scope} {pos:Pos} (T:Option V->Rho)
    (hs:∀x,foldedSetIterable iter F.env x=pure x) (hsc:F.env.scope=sc) (hck:Y0 scope.names ρ sc=true) (hkind:scope.kind=.function) (hT0:ZB scope.names ρ=T none) (hT:∀o m,UpdR (T o) tx m (T (some m)))
    (hloc:∀Fc:Frm,Fc.env.scope=relabel scope (Zg sc)->Fc.env.kindOf tx=some .local)
    (h:WIt S F n iter ρ σ (λitems G pairs σ1=>pairs=false/\items.length<=100000/\(∀σ2,Ext σ1 σ2->G σ2)/\∃(p:V->Bool) (f:V->V),
      (∀Fc:Frm,Fc.env.scope=relabel scope (Zg sc)->Fc.isFn=false->∀x∈items,∀σ2,Ext σ1 σ2->WB S Fc n (isTrue c Fc.env (eval c Fc.env)) (T (some x)) σ2 (λb σ4=>σ4=σ2/\b=p x) noX)/\
      (∀Fc:Frm,Fc.env.scope=relabel scope (Zg sc)->Fc.isFn=false->∀x∈items,p x=true->∀σ2,Ext σ1 σ2->WE S Fc n (eval elt Fc.env) (T (some x)) σ2 (λm σ4=>σ4=σ2/\m=f x) noX)/\
      ∀a,σ1 a=none->Q (.ref a) (σ1.set a (.list ((items.filter p).map f)))) X) :
    WE S F n (eval (.ListComp elt [⟨.Name tx tp,iter,[c],0⟩] scope pos) F.env) ρ σ Q X:=by
  refine Wl hs hsc hck hkind ?_;intro A s P hR x k;refine h A s P hR x ?_;rintro items G pairs σ1 s1 J ⟨hp,hz,hG,p,f,hc,hf,hq⟩ y z e1 e2 hA hfr;refine k items G pairs σ1 s1 J ⟨.inr ⟨rfl,hp⟩,λa ha=>?_⟩ y z e1 e2 hA hfr;refine ⟨⟨λits acc ρ' σ'=>(∃o,ρ'=T o)/\∃pre,items=pre++its/\acc=(pre.filter p).map f/\σ'=σ1.set a (.list acc),⟨⟨none,hT0⟩,[],rfl,rfl,rfl⟩,?_,?_,?_⟩⟩
  · rintro its acc ρ' σ' ⟨_,pre,_,_,rfl⟩;exact ⟨hG _ (Ext.set ha),MH.set_same ..⟩
  · rintro Fc hFc hFn x rest acc ρ' σ' ⟨⟨o,rfl⟩,pre,rfl,rfl,rfl⟩;refine ZC (hT o x) (.inr (hloc Fc hFc)) ?_;refine WB.conseq (hc Fc hFc hFn x (by simp) _ (Ext.set ha)) ?_;rintro b σ4 ⟨rfl,rfl⟩;refine ⟨_,Ext.refl _,?_⟩;(set_option tactic.hygienic true in split)
    · rename_i hpx;refine WE.conseq (hf Fc hFc hFn x (by simp) hpx _ (Ext.set ha)) ?_;rintro m σ4 ⟨rfl,rfl⟩;refine ⟨_,Ext.refl _,?_,MH.set_same ..,⟨_,rfl⟩,pre++[x],by simp,by simp [hpx],by simp [XO]⟩;have:=List.length_filter_le p pre;simp only [List.length_append,List.length_map] at hz ⊢;lia
    · rename_i hpx;simp only [Bool.not_eq_true] at hpx;exact ⟨⟨_,rfl⟩,pre++[x],by simp,by simp [hpx],rfl⟩
  · rintro acc ρ' σ' ⟨_,pre,h1,rfl,rfl⟩;simp only [List.append_nil] at h1;subst h1;exact hq a ha
end
set_option tactic.hygienic false
section
variable {S:Sys} {F:Frm} {n:Nat×Nat} {ρ:Rho} {σ:MH} {Q:V->MH->Prop} {X:MH->Prop}
theorem rGInt (ok:SysOk S) {x:Str} {pos:Pos} {i:Int} {t:Tok} (h:gOk S F x (.int i t)) (q:Q (.int i) σ):WE S F n (eval (.Name x pos) F.env) ρ σ Q X:=
  λA s hR y=>gEval ok y h ⟨.int i,σ,Ze.refl ..,y,by first | exact rfl | exact ⟨_,rfl⟩,q⟩
theorem rMList {id:String} {o:Expr} {name:Str} {apos pos:Pos} {args:List Expr} {pl:Sem Bool} (slot:Slot "list" name id) (hty:typeOf (.builtin id)=pure (.type "method_descriptor")) (hp:args.all Zt=true)
    (h:WE S F n (eval o F.env) ρ σ (λm σ1=>∃l ms,m=.ref l/\σ1 l=some (.list ms)/\ZD S F n args ρ σ1 (λas σ2=>ZN S F n (.builtin id) (m::as) ρ σ2 Q X) X) X)
    (he:eval (.Call (.Attribute o name apos) args [] pos) F.env=(do
      let ov<-eval o F.env
      standAt apos.atName
      let (f,first)<-holding [ov] (getMethod ov name pl)
      callWith pos f first (backTo pos (starEach args F.env)) [])):WE S F n (eval (.Call (.Attribute o name apos) args [] pos) F.env) ρ σ Q X:=by
  refine W0 (id:=id) hp ?_ he;refine WE.conseq h ?_;rintro m σ' ⟨l,ms,rfl,hl,q⟩;exact ⟨σ',Ext.refl _,getM_list hl slot hty,q⟩
theorem rMDict {id:String} {o:Expr} {name:Str} {apos pos:Pos} {args:List Expr} {pl:Sem Bool} (slot:Slot "dict" name id) (hty:typeOf (.builtin id)=pure (.type "method_descriptor")) (hp:args.all Zt=true)
    (h:WE S F n (eval o F.env) ρ σ (λm σ1=>∃l es,m=.ref l/\σ1 l=some (.dict es)/\ZD S F n args ρ σ1 (λas σ2=>ZN S F n (.builtin id) (m::as) ρ σ2 Q X) X) X)
    (he:eval (.Call (.Attribute o name apos) args [] pos) F.env=(do
      let ov<-eval o F.env
      standAt apos.atName
      let (f,first)<-holding [ov] (getMethod ov name pl)
      callWith pos f first (backTo pos (starEach args F.env)) [])):WE S F n (eval (.Call (.Attribute o name apos) args [] pos) F.env) ρ σ Q X:=by
  refine W0 (id:=id) hp ?_ he;refine WE.conseq h ?_;rintro m σ' ⟨l,ms,rfl,hl,q⟩;exact ⟨σ',Ext.refl _,getM_dict hl slot hty,q⟩
theorem rMTDict {id:String} {o:Expr} {name:Str} {apos pos:Pos} {args:List Expr} {pl:Sem Bool} (slot:Slot "dict" name id) (hty:typeOf (.builtin id)=pure (.type "method_descriptor")) (hp:args.all Zt=true)
    (h:WE S F n (eval o F.env) ρ σ (λm σ1=>∃l es,m=.ref l/\σ1 l=some (.tdict es)/\ZD S F n args ρ σ1 (λas σ2=>ZN S F n (.builtin id) (m::as) ρ σ2 Q X) X) X)
    (he:eval (.Call (.Attribute o name apos) args [] pos) F.env=(do
      let ov<-eval o F.env
      standAt apos.atName
      let (f,first)<-holding [ov] (getMethod ov name pl)
      callWith pos f first (backTo pos (starEach args F.env)) [])):WE S F n (eval (.Call (.Attribute o name apos) args [] pos) F.env) ρ σ Q X:=by
  refine W0 (id:=id) hp ?_ he;refine WE.conseq h ?_;rintro m σ' ⟨l,ms,rfl,hl,q⟩;exact ⟨σ',Ext.refl _,Uy hl slot hty,q⟩
theorem Ze.more {own:Addr->Prop} {σ0 σ σ':MH} {s s':Shared} (y:Ze own σ0 s σ' s') (e:Ext σ0 σ):Ze own σ s σ' s':=
  ⟨λb o hb hn ho=>y.keep b o hb (Zx e hn) ho,y.alive,λa h=>(y.dom a h).elim (λq=>.inl λr=>q (Zx e r)) .inr,y.os⟩
theorem WS.drop {t:Sem Flow} {Q:MF->Rho->MH->Prop} {σ0:MH} (e:Ext σ0 σ) (h:WS S F n t ρ σ0 Q X):WS S F n t ρ σ Q X:=by
  intro A s hR x;refine wpAny_mono (h A s hR (x.forget e)) ?_ (λ_ _ e=>e);rintro v s' ⟨m,ρ',σ',y,z,r,q⟩;exact ⟨m,ρ',σ',y.more e,z,r,q⟩
theorem Ext.put {σ1 σ2:MH} (e:Ext σ1 σ2) (D:Addr) (y:Zd):Ext (σ1.set D y) (σ2.set D y):=λb mo h=>by
  by_cases q:b=D
  · subst q;rwa [MH.set_same] at h ⊢
  · rw [MH.set_ne q] at h ⊢;exact e b mo h
theorem rRevL {v:Expr} {p1 sp pos:Pos} {kk:Nat} {kp:Pos}
    (h:WE S F n (eval v F.env) ρ σ (λm σ1=>∃a ms,m=.ref a/\σ1 a=some (.list ms)/\ms.length<=1000000/\∀D,σ1 D=none->Q (.ref D) (σ1.set D (.list ms.reverse))) X) :
    WE S F n (eval (.Subscript v (.Slice none none (some (.UnaryOp .USub (.Constant (.int 1) kk kp) p1)) sp) pos) F.env) ρ σ Q X:=by
  refine UV ?_;refine WE.conseq h ?_;rintro m σ' ⟨a,ms,rfl,ha,hz,q⟩;refine ⟨σ',Ext.refl _,a,rfl,J8 (J8 (rPart (rNeg (rInt ⟨1,rfl,ms,none,none,some (-1),ha,rfl,rfl,rfl,by decide,hz,λD hD=>?_⟩))))⟩;rw [pickV_rev];exact q D hD
theorem rSubI {l r:Expr} {pos:Pos}
    (h:WE S F n (eval l F.env) ρ σ (λm1 σ1=>WE S F n (eval r F.env) ρ σ1 (λm2 σ2=>Z6 S F n (subscriptTail l r) m1 m2 ρ σ2 Q X) X) X) (hr:YJ r=true):WE S F n (eval (.Subscript l r pos) F.env) ρ σ Q X:=rSub h
theorem Ws (a b:Nat):(((a:Nat):Int)==(b:Int))=decide (a=b):=by
  rw [Bool.eq_iff_iff];simp only [beq_iff_eq,decide_eq_true_eq];lia
theorem Qy (a b:Nat):(((a:Nat):Int) != (b:Int))=!decide (a=b):=by
  rw [bne,Ws]
theorem rNot {e:Expr} {pos:Pos} (h:WE S F n (eval e F.env) ρ σ (λm σ1=>∃b:Bool,m=.bool b/\Q (.bool (!b)) σ1) X):WE S F n (eval (.UnaryOp .Not e pos) F.env) ρ σ Q X:=by
  intro A s hR x;rw [arm_eval_UnaryOp];refine wpAny_bind (wpAny_mono (h A s hR x) ?_ λ_ _ z=>z);rintro v s1 ⟨m,σ1,y,x1,r,b,rfl,q⟩;obtain rfl:=r;refine wpAny_bind (wpAny_standAt ?_);refine wpAny_holding ?_;refine not_value (wpAny_truthy_bool ?_);exact ⟨.bool (!b),σ1,y,x1,by first | exact rfl | exact ⟨_,rfl⟩,q⟩
theorem ZD.drop {args:List Expr} {Q:List V->MH->Prop} {σ0:MH} (e:Ext σ0 σ) (h:ZD S F n args ρ σ0 Q X):ZD S F n args ρ σ Q X:=by
  intro A s hR x;refine wpAny_mono (h A s hR (x.forget e)) ?_ (λ_ _ e=>e);rintro v s' ⟨m,σ',y,z,r,q⟩;exact ⟨m,σ',y.more e,z,r,q⟩
end
set_option tactic.hygienic false
section
variable {S:Sys} {F:Frm} {n:Nat×Nat} {ρ:Rho} {σ:MH} {X:MH->Prop}
theorem vD {p:Pos} {Q:V->MH->Prop} (q:∀D,σ D=none->Q (.ref D) (σ.set D (.dict []))):WE S F n (eval (.Dict [] [] p) F.env) ρ σ Q X:=UD q
theorem vTD {p:Pos} {Q:V->MH->Prop} (q:∀D,σ D=none->Q (.ref D) (σ.set D (.tdict []))):WE S F n (eval (.Dict [] [] p) F.env) ρ σ Q X:=UO q
theorem vL {p:Pos} {Q:V->MH->Prop} (q:∀D,σ D=none->Q (.ref D) (σ.set D (.list []))):WE S F n (eval (.List [] p) F.env) ρ σ Q X:=rList (aNil ⟨by simp,λD h=>q D h⟩) rfl
theorem sPart (ok:SysOk S) {Q:MF->Rho->MH->Prop} {L:Lay} {C:CT} (g gd:G) (ob:Zd) {c:Addr} {ms:List V} {value:Expr} {self x:Str} {p pos' pos:Pos} (O:Own σ L C)
    (hself:(self,some (.inst c (L gd)))∈ρ) (hc:C gd=some (.flds c ms)) (hne:gd≠g) (hf:Ya S c x ms.length) (hz:ms.length<=100)
    (hv:∀{Q:V->MH->Prop},(∀D,σ D=none->Q (.ref D) (σ.set D ob))->WE S F n (eval value F.env) ρ σ Q X)
    (hs:swapsWith value (some (.Attribute (.Name self p) x pos')) pos.line F.env=pure false)
    (k:∀(L':Lay) σ',Own σ' L' (upd (upd C g (some ob)) gd (some (.flds c (ms++[.ref (L' g)]))))->(∀k,k≠g->L' k=L k)->Q .next ρ σ') :
    WS S F n (exec (.Assign [.Attribute (.Name self p) x pos'] value pos) F.env) ρ σ Q X:=by
  refine sFld ok ?_ hs;refine hv λD hD=>?_;refine rName hself ?_;obtain ⟨L',O',d',k'⟩:=O.part hD hne hc ob;refine ⟨_,_,ms,ms.length,rfl,?_,hf,Nat.le_refl _,hz,?_⟩
  · rw [MH.set_ne (O.ne hc hD)];exact O.get gd _ hc
  · have e:QX ms ms.length (.ref D)=ms++[.ref D]:=by unfold QX;rw [if_neg (by lia)]
    rw [e];exact k L' _ O' k'
end
set_option tactic.hygienic false
section
variable {S:Sys} {F:Frm} {n:Nat×Nat} {ρ:Rho} {σ:MH} {Q:V->MH->Prop} {X:MH->Prop}
noncomputable def JC (S:Sys) (a:Addr) (is:List Int):Prop:=∃us:List Value,S.h0.IsList a us.toArray/\IntsAre us is
theorem rSliceB {v hi:Expr} {sp pos:Pos}
    (h:WE S F n (eval v F.env) ρ σ (λm σ1=>∃a is,m=.ref a/\JC S a is/\is.length<=1000/\WE S F n (evalPart (some hi) F.env) ρ σ1 (λm2 σ3=>∃k:Nat,m2=.int k/\
      ∀D,σ3 D=none->Q (.ref D) (σ3.set D (.list ((is.take k).map V.int)))) X) X) :
    WE S F n (eval (.Subscript v (.Slice none (some hi) none sp) pos) F.env) ρ σ Q X:=by
  intro A s hR y;refine Subscript_ (wpAny_mono (h A s hR y) ?_ λ_ _ z=>z);rintro u s1 ⟨m,σ1,y1,x1,r1,a,is,rfl,hb,hz,h1⟩;refine wpAny_Slice (wpAny_mono ((J8 (Q:=λm σ=>m=.none/\σ=σ1) ⟨rfl,rfl⟩:WE S F n (evalPart none F.env) ρ σ1 _ X) A s1 hR x1) ?_ λ_ _ z=>z);rintro ul s2 ⟨m1,σ2,y2,x2,r2,rfl,rfl⟩;refine wpAny_mono (h1 A s2 hR x2) ?_ λ_ _ z=>z;rintro uh s3 ⟨m2,σ3,y3,x3,r3,k,rfl,q⟩;refine wpAny_mono ((J8 (Q:=λm σ=>m=.none/\σ=σ3) ⟨rfl,rfl⟩:WE S F n (evalPart none F.env) ρ σ3 _ X) A s3 hR x3) ?_ λ_ _ z=>z;rintro us s4 ⟨m3,σ4,y4,x4,r4,rfl,rfl⟩;have r2':=(r2.over x2 y3).over x3 y4;have r3':=r3.over x3 y4;obtain rfl:=Zo r1;obtain ⟨vs,⟨ob,hob,hob2⟩,hi⟩:=hb;have o:=x4.g.base a _ hob;have rs:Zc s4.heap (is.map V.int) vs:=Ud hi;have hl:=rs.length;have hL:(s4.heap.push { cls:=.type "slice",data:=.fields #[ul,uh,us] }).IsList a vs.toArray:=Heap.IsList.push ⟨_,o,hob2⟩ _;obtain ⟨y5,x5⟩:=x4.push { cls:=.type "slice",data:=.fields #[ul,uh,us] } s4.toks;refine tail_any (s:={ s4 with heap:=s4.heap.push { cls:=.type "slice",data:=.fields #[ul,uh,us] } }) (Heap.IsList.typeIs (s:={ s4 with heap:=s4.heap.push { cls:=.type "slice",data:=.fields #[ul,uh,us] } }) hL) list_getitem_lookup
    (wpAny_getItem_list_slice hL (Heap.IsSliceOf.new ..) (XJ r2' (o:=none) rfl) (XJ r3' (o:=some (k:Int)) rfl) (XJ r4 (o:=none) rfl) (by decide) ?_ (YE (by simp at hl ⊢;lia))) rfl
  obtain ⟨y6,x6⟩:=x5.alloc { cls:=.type "list",data:=.seq (slicePick vs.toArray none (some (k:Int)) none) } (.list (JT (is.map V.int) none (some (k:Int)) none)) s4.toks (by
    refine ⟨(slicePick vs.toArray none (some (k:Int)) none).toList,0,?_,?_⟩
    · have:(slicePick vs.toArray none (some (k:Int)) none).toList.toArray=slicePick vs.toArray none (some (k:Int)) none:=by simp
      rw [this];exact Heap.get?_push_size _ rfl
    · exact (Qt (rs.over x4 y5) none (some (k:Int)) none).keep λb o e _=>Heap.get?_push_of_some _ e)
  rw [VG,<-List.map_take] at x6 y6;exact ⟨.ref _,_,y1.trans (y2.trans (y3.trans (y4.trans (y5.trans y6)))),x6,by first | exact rfl | exact ⟨_,rfl⟩,q _ (x5.g.none_of_size (Nat.le_refl _))⟩
noncomputable def Xx (S:Sys) (F:Frm) (n:Nat×Nat):List (Option Expr)->List Expr->Rho->MH->(List (Key×V)->MH->Prop)->(MH->Prop)->Prop
  | [],[],_,σ,Q,_=>Q [] σ
  | some k::ks,v::vs,ρ,σ,Q,X=>WE S F n (eval k F.env) ρ σ (λmk σ1=>∃key,mk=V.ofKey key/\WE S F n (eval v F.env) ρ σ1 (λmv σ2=>Xx S F n ks vs ρ σ2 (λes σ3=>Q ((key,mv)::es) σ3) X) X) X
  | _,_,_,_,_,_=>False
theorem Xx.go {k:Expr} {v:Expr} {ks:List (Option Expr)} {vs:List Expr} {Q:List (Key×V)->MH->Prop} (h:Xx S F n (some k::ks) (v::vs) ρ σ Q X):WE S F n (eval k F.env) ρ σ (λmk σ1=>∃key,mk=V.ofKey key/\WE S F n (eval v F.env) ρ σ1 (λmv σ2=>Xx S F n ks vs ρ σ2 (λes σ3=>Q ((key,mv)::es) σ3) X) X) X:=h
theorem Xx.run {pos:Pos} {A:Around} (hR:Yz F n A):∀{keys:List (Option Expr)} {values:List Expr} {σ:MH} {s:Shared} {Q:List (Key×V)->MH->Prop} {P:List (Value×Value)->Shared->Prop},Xx S F n keys values ρ σ Q X->St S F ρ σ s->
    (∀vs kvs es σ' s',Ze ZI σ s σ' s'->St S F ρ σ' s'->Carries S.kk vs kvs->Ye s'.heap es kvs->Q es σ'->P vs s')->wpAny S.M A (evalPairs (pairTrees keys values F.env pos)) P (EX S F X) s
  | [],[],σ,s,Q,P,h,x,k=>pairTrees_nil_walk (k [] [] [] σ s (Ze.refl ..) x trivial Ye.nil h)
  | [],_::_,_,_,_,_,h,_,_=>h.elim
  | none::_,_,_,_,_,_,h,_,_=>h.elim
  | some _::_,[],_,_,_,_,h,_,_=>h.elim
  | some ke::ks,ve::vs,σ,s,Q,P,h,x,k=>by
    refine pairTrees_cons_walk ?_;refine wpAny_mono (Xx.go h A s hR x) ?_ λ_ _ z=>z;rintro uk s1 ⟨mk,σ1,y1,x1,r1,key,rfl,h1⟩;refine wpAny_mono (h1 A s1 hR x1) ?_ λ_ _ z=>z;rintro uv s2 ⟨mv,σ2,y2,x2,r2,h2⟩;refine Xx.run hR h2 x2 ?_;intro vs' kvs es σ' s' y3 x3 c3 p3 q3;exact k _ ((key,uv)::kvs) ((key,mv)::es) σ' s' (y1.trans (y2.trans y3)) x3 ⟨Yl r1,rfl,c3⟩ (Ye.cons rfl (r2.over x2 y3) p3) q3
theorem K6 {h:Heap}:∀{es:List (Key×V)} {kvs:List (Key×Value)} {es0:List (Key×V)} {kvs0:List (Key×Value)},Ye h es0 kvs0->Ye h es kvs->Ye h (es.foldl (λd e=>YU d e.1 e.2) es0) (merged kvs0 kvs)
  | [],kvs,es0,kvs0,r0,r=>by
    have:kvs=[]:=List.length_eq_zero_iff.mp (by rw [r.length];rfl);subst this;exact r0
  | e::es,kvs,es0,kvs0,r0,r=>by
    obtain ⟨u,kvs',rfl,a,b⟩:=r.inv;have:=K6 (es0:=YU es0 e.1 e.2) (kvs0:=stored kvs0 e.1 u) (r0.put (k:=e.1) a) b;exact this
theorem rDictP {keys:List (Option Expr)} {values:List Expr} {pos:Pos} (hall:keys.all (·.isSome)=true) (hl:keys.length=values.length) (h0:keys≠[]) (hlen:keys.length<=15)
    (h:∀D,σ D=none->Xx S F n keys values ρ (σ.set D (.dict [])) (λes σ'=>σ' D=some (.dict [])/\Q (.ref D) (σ'.set D (.dict (es.foldl (λd e=>YU d e.1 e.2) [])))) X) :
    WE S F n (eval (.Dict keys values pos) F.env) ρ σ Q X:=by
  intro A s hR y;refine wpAny_Dict_walk (knd:=S.kk) hall hl h0 hlen ?_;obtain ⟨y1,x1⟩:=y.alloc { cls:=.type "dict",data:=.dict #[] } (.dict []) s.toks (by
    exact ⟨[],Heap.DictOf.new (knd:=S.kk) s.heap,rfl,Zc.nil⟩)
  refine Xx.run hR (h _ (y.g.none_of_size (Nat.le_refl _))) x1 ?_;rintro vs kvs es σ' s' y2 x2 c2 p2 ⟨hD,q⟩;obtain ⟨kvs0,hd0,pr0⟩:=x2.g.dict hD;have e0:kvs0=[]:=List.length_eq_zero_iff.mp (by rw [pr0.length];rfl);subst e0;refine ⟨kvs,c2,hd0,λh' hm hs=>?_⟩;obtain ⟨y3,x3⟩:=x2.upd hD (s'.toks+vs.length) hs (mo':=.dict (es.foldl (λd e=>YU d e.1 e.2) [])) λvk=>by
    simp only [or0,or1,or2,or3,or4];have:=K6 (pr0.keep vk) (p2.keep vk);exact ⟨_,hm,this.1,this.2⟩
  exact ⟨.ref _,_,y1.trans (y2.trans y3),x3,by first | exact rfl | exact ⟨_,rfl⟩,q⟩
end
set_option genSizeOf false
set_option genInjectivity false
set_option tactic.hygienic false
noncomputable def Kp {α:Sort _} (P K:α):Prop:=P=K
theorem unK {P K:MF->Rho->MH->Prop} (h:Kp P K) {mf:MF} {ρ:Rho} {σ:MH} (x:P mf ρ σ):K mf ρ σ:=by cases h;exact x
noncomputable def SeqK (S:Sys) (F:Frm) (n:Nat×Nat) (rest:List Stmt) (Q:MF->Rho->MH->Prop) (X:MH->Prop) (K:MF->Rho->MH->Prop):Prop:=
  (λmf ρ1 σ1=>match mf with | .next=>WS S F n (execs rest F.env) ρ1 σ1 Q X | o=>Q o ρ1 σ1)=K
noncomputable def Uf {α:Type} (I:α->Rho->MH->Prop) (rest:α) (Q K:MF->Rho->MH->Prop):Prop:=
  (λmf ρ3 σ3=>match mf with | .next | .cont=>I rest ρ3 σ3 | .brk=>Q .next ρ3 σ3 | .ret m=>Q (.ret m) ρ3 σ3)=K
noncomputable def WhK (I:Nat->Rho->MH->Prop) (k:Nat) (Q K:MF->Rho->MH->Prop):Prop:=
  (λmf ρ3 σ3=>match mf with | .next | .cont=>∃k',k'<k/\I k' ρ3 σ3 | .brk=>Q .next ρ3 σ3 | .ret m=>Q (.ret m) ρ3 σ3)=K
section
variable {S:Sys} {F:Frm} {n:Nat×Nat} {ρ:Rho} {σ:MH} {Q K:MF->Rho->MH->Prop} {X:MH->Prop} {rest:List Stmt} {v:V}
theorem unSeq (h:SeqK S F n rest Q X K) (x:WS S F n (execs rest F.env) ρ σ Q X):K .next ρ σ:=by cases h;exact x
theorem unSeqR (h:SeqK S F n rest Q X K) (x:Q (.ret v) ρ σ):K (.ret v) ρ σ:=by cases h;exact x
theorem unSeqB (h:SeqK S F n rest Q X K) (x:Q .brk ρ σ):K .brk ρ σ:=by cases h;exact x
theorem unSeqC (h:SeqK S F n rest Q X K) (x:Q .cont ρ σ):K .cont ρ σ:=by cases h;exact x
theorem unLoop {α:Type} {I:α->Rho->MH->Prop} {r:α} (h:Uf I r Q K) (x:I r ρ σ):K .next ρ σ:=by cases h;exact x
theorem unLoopC {α:Type} {I:α->Rho->MH->Prop} {r:α} (h:Uf I r Q K) (x:I r ρ σ):K .cont ρ σ:=by cases h;exact x
theorem unLoopB {α:Type} {I:α->Rho->MH->Prop} {r:α} (h:Uf I r Q K) (x:Q .next ρ σ):K .brk ρ σ:=by cases h;exact x
theorem unLoopR {α:Type} {I:α->Rho->MH->Prop} {r:α} (h:Uf I r Q K) (x:Q (.ret v) ρ σ):K (.ret v) ρ σ:=by cases h;exact x
theorem unWh {I:Nat->Rho->MH->Prop} {k:Nat} (h:WhK I k Q K) (x:∃k',k'<k/\I k' ρ σ):K .next ρ σ:=by cases h;exact x
theorem unWhC {I:Nat->Rho->MH->Prop} {k:Nat} (h:WhK I k Q K) (x:∃k',k'<k/\I k' ρ σ):K .cont ρ σ:=by cases h;exact x
theorem unWhB {I:Nat->Rho->MH->Prop} {k:Nat} (h:WhK I k Q K) (x:Q .next ρ σ):K .brk ρ σ:=by cases h;exact x
theorem unWhR {I:Nat->Rho->MH->Prop} {k:Nat} (h:WhK I k Q K) (x:Q (.ret v) ρ σ):K (.ret v) ρ σ:=by cases h;exact x
theorem waNil {QA:Rho->MH->Prop} (q:QA ρ σ):WY S F n [] [] ρ σ QA X:=q
theorem sOne {st:Stmt} (h:WS S F n (exec st F.env) ρ σ Q X):WS S F n (execs [st] F.env) ρ σ Q X:=
  sCons (WS.conseq h λmf ρ1 σ1 q=>⟨σ1,Ext.refl _,by cases mf <;> first | exact sNil q | exact q⟩)
theorem sConsK {st:Stmt} (h:∀K,SeqK S F n rest Q X K->WS S F n (exec st F.env) ρ σ K X):WS S F n (execs (st::rest) F.env) ρ σ Q X:=sCons (h _ rfl)
theorem Xq {target iter:Expr} {body:List Stmt} {pos:Pos} (hs:∀x,foldedSetIterable iter F.env x=pure x)
    (h:WIt S F n iter ρ σ (λitems G pairs σ1=>(YF target=true\/(Yb target=true/\pairs=false))/\∃I:List V->Rho->MH->Prop,
      I items ρ σ1/\(∀its ρ' σ',I its ρ' σ'->G σ')/\
      (∀x rest K,Uf I rest Q K->∀ρ' σ',I (x::rest) ρ' σ'->WA S F n (assign target F.env) x ρ' σ' (λρ2 σ2=>WS S F n (execs body F.env) ρ2 σ2 K noX) noX)/\
      (∀ρ' σ',I [] ρ' σ'->Q .next ρ' σ')) X):WS S F n (exec (.For target iter body [] pos) F.env) ρ σ Q X:=
  sForI hs (by
    intro A s P hR x k;refine h A s P hR x λitems G pairs σ1 s1 J zz=>by obtain ⟨ht,I,i0,ig,it,iq⟩:=zz;exact k items G pairs σ1 s1 J ⟨ht,I,i0,ig,λx rest ρ' σ' hi=>it x rest _ rfl ρ' σ' hi,iq⟩)
theorem Jk {test:Expr} {body:List Stmt} {pos:Pos} (I:Nat->Rho->MH->Prop) (k0:Nat) (h0:I k0 ρ σ)
    (turn:∀k K,WhK I k Q K->∀ρ σ,I k ρ σ->WB S F n (isTrue test F.env (eval test F.env)) ρ σ (λb σ1=>if b=true then WS S F n (execs body F.env) ρ σ1 K noX else Q .next ρ σ1) noX) :
    WS S F n (exec (.While test body [] pos) F.env) ρ σ Q X:=sWhile I k0 h0 λk ρ σ hi=>turn k _ rfl ρ σ hi
end
section
variable {S:Sys} {k k':Nat} {f:Value} {ms:List V} {σ:MH} {Q:V->MH->Prop}
theorem Fn.useP {v:V} (h:Fn S k f ms σ (λm σ'=>σ'=σ/\m=v)) (hk:k<=k') (q:Q v σ):Fn S k' f ms σ Q:=
  h.mono hk λm σ' zz=>by obtain ⟨a,b⟩:=zz;cases a;cases b;exact q
theorem Fn.useV {v:V} {P:MH->Prop} (h:Fn S k f ms σ (λm σ'=>m=v/\P σ')) (hk:k<=k') (q:∀σ',P σ'->Q v σ'):Fn S k' f ms σ Q:=
  h.mono hk λm σ' zz=>by obtain ⟨a,b⟩:=zz;cases a;exact q σ' b
theorem Fn.useN {o:Zd} (h:Fn S k f ms σ (λm σ'=>∃D,A3 (σ D=none) (m=.ref D) (σ'=σ.set D o))) (hk:k<=k') (q:∀D,σ D=none->Q (.ref D) (σ.set D o)):Fn S k' f ms σ Q:=
  h.mono hk λm σ' zz=>by obtain ⟨D,a,b,c⟩:=zz;cases b;cases c;exact q D a
theorem Fn.newA {o:Zd} (h:Fn S k f ms σ (λm σ'=>∃D,A3 (σ D=none) (m=.ref D) (Ext (σ.set D o) σ'))):Fn S k f ms σ (λm σ'=>∃D,A3 (σ D=none) (m=.ref D) (σ'=σ.set D o)):=
  h.conseq λm σ' zz=>by obtain ⟨D,a,b,c⟩:=zz;exact ⟨_,c,D,a,b,rfl⟩
theorem Fn.newPA {P:Zd->Prop} (h:Fn S k f ms σ (λm σ'=>E2 λD o=>A4 (σ D=none) (m=.ref D) (Ext (σ.set D o) σ') (P o))):Fn S k f ms σ (λm σ'=>E2 λD o=>A4 (σ D=none) (m=.ref D) (σ'=σ.set D o) (P o)):=
  h.conseq λm σ' zz=>by obtain ⟨D,o,a,b,c,p⟩:=zz;exact ⟨_,c,D,o,a,b,rfl,p⟩
theorem ifN {c:Prop} [Decidable c] {A B:Prop} (h:¬ c) (b:B):if c then A else B:=(if_neg h).symm▸b
theorem ifP {c:Prop} [Decidable c] {A B:Prop} (h:c) (a:A):if c then A else B:=(if_pos h).symm▸a
theorem len0 {α:Type} {l:List α} (h:l.length=0):l=[]:=by cases l;rfl;cases h
theorem len1 {α:Type} {l:List α} (h:l.length=1):∃a,l=[a]:=by
  cases l with | nil=>cases h | cons a l=>cases len0 (Nat.succ.inj h);exact ⟨a,rfl⟩
theorem len2 {α:Type} {l:List α} (h:l.length=2):E2 λa b=>l=[a,b]:=by
  cases l with | nil=>cases h | cons a l=>obtain ⟨b,e⟩:=len1 (Nat.succ.inj h);cases e;exact ⟨a,b,rfl⟩
theorem len3 {α:Type} {l:List α} (h:l.length=3):E3 λa b c=>l=[a,b,c]:=by
  cases l with | nil=>cases h | cons a l=>obtain ⟨b,c,e⟩:=len2 (Nat.succ.inj h);cases e;exact ⟨a,b,c,rfl⟩
theorem len4 {α:Type} {l:List α} (h:l.length=4):E4 λa b c d=>l=[a,b,c,d]:=by
  cases l with | nil=>cases h | cons a l=>obtain ⟨b,c,d,e⟩:=len3 (Nat.succ.inj h);cases e;exact ⟨a,b,c,d,rfl⟩
theorem len5 {α:Type} {l:List α} (h:l.length=5):E5 λa b c d f=>l=[a,b,c,d,f]:=by
  cases l with | nil=>cases h | cons a l=>obtain ⟨b,c,d,f,e⟩:=len4 (Nat.succ.inj h);cases e;exact ⟨a,b,c,d,f,rfl⟩
theorem Fn.toK {K:MF->Rho->MH->Prop} {ρ:Rho} (h:Fn S k f ms σ Q) (hK:Kp (λmf (_:Rho) σ'=>Q (retV mf) σ') K):Fn S k f ms σ (λm σ'=>K (.ret m) ρ σ'):=h.mono (Nat.le_refl _) λm σ' q=>unK hK q
theorem Fn.introK {S:Sys} (ok:SysOk S) {k:Nat} {a:Addr} {oc:Value} {od:Option Addr} {osl:Array (Option Value)} {fd:FuncData} {body:List Stmt} {ps:List Str} {ms:List V} {σ:MH} {Q:V->MH->Prop} {ρ₀:Rho}
    (ho:S.K.lookup a=some ⟨oc,od,.func fd,osl⟩) (hcd:codeIn S.K fd.code fd.qualname=true) (hbody:fd.body=.stmts body) (hclo:fd.closure=[]) (hgl:fd.globals=mainGlobals) (hbl:fd.builtins=builtinsNs)
    (hco:fd.scope.isCoroutine=false) (hgen:fd.scope.isGenerator=false) (hk:fd.scope.kind=.function)
    (hbind:∀us:List Value,us.length=ms.length->bindArgs fd ⟨us,[]⟩=pure (ps.zip us))
    (hok:W7 fd.scope.names ps=true) (hρ:Qs fd.scope.names ps ms=ρ₀)
    (h:∀K,Kp (λmf (_:Rho) σ'=>Q (retV mf) σ') K->∀F:Frm,F.env.scope=fd.scope->F.isFn=true->WS S F (k,15) (execs body F.env) ρ₀ σ K (λ_=>False)):Fn S (k+1) (.ref a) ms σ Q:=
  Fn.intro ok ho hcd hbody hclo hgl hbl hco hgen hk hbind hok hρ (h _ rfl)
end
set_option genSizeOf false
set_option genInjectivity false
set_option tactic.hygienic false
section
variable (S:Sys) (F:Frm) (n:Nat×Nat)
noncomputable abbrev AQ (QL:List V->MH->Prop) (m:V) (ms:List V) (σ2:MH):Prop:=QL (m::ms) σ2
noncomputable abbrev ACons (r:List Expr) (ρ:Rho) (QL:List V->MH->Prop) (X:MH->Prop) (m:V) (σ1:MH):Prop:=ZD S F n r ρ σ1 (AQ QL m) X
noncomputable abbrev CalP (k:Nat) (f:Addr) (Q:V->MH->Prop) (as:List V) (σ2:MH):Prop:=Fn S k (.ref f) as σ2 Q
noncomputable abbrev CalB (f:Value) (ρ:Rho) (Q:V->MH->Prop) (X:MH->Prop) (as:List V) (σ2:MH):Prop:=ZN S F n f as ρ σ2 Q X
inductive PFld (x:Str) (Q:V->MH->Prop) (m:V) (σ1:MH):Prop where
  | mk (C d:Addr) (ms:List V) (i:Nat) (v:V) (e:m=.inst C d) (h:σ1 d=some (.flds C ms)) (f:Ya S C x i) (g:ms[i]?=some v) (q:Q v σ1):PFld x Q m σ1
inductive PMth (k:Nat) (x:Str) (args:List Expr) (ρ:Rho) (Q:V->MH->Prop) (X:MH->Prop) (m:V) (σ1:MH):Prop where
  | mk (C d:Addr) (ms:List V) (f:Addr) (e:m=.inst C d) (h:σ1 d=some (.flds C ms)) (g:Zu S C x f) (q:ZD S F n args ρ σ1 (AQ (CalP S k f Q) m) X):PMth k x args ρ Q X m σ1
inductive PML (f:Value) (args:List Expr) (ρ:Rho) (Q:V->MH->Prop) (X:MH->Prop) (m:V) (σ1:MH):Prop where
  | mk (l:Addr) (ms:List V) (e:m=.ref l) (h:σ1 l=some (.list ms)) (q:ZD S F n args ρ σ1 (AQ (CalB S F n f ρ Q X) m) X):PML f args ρ Q X m σ1
inductive PMD (f:Value) (args:List Expr) (ρ:Rho) (Q:V->MH->Prop) (X:MH->Prop) (m:V) (σ1:MH):Prop where
  | mk (l:Addr) (es:List (Key×V)) (e:m=.ref l) (h:σ1 l=some (.dict es)) (q:ZD S F n args ρ σ1 (AQ (CalB S F n f ρ Q X) m) X):PMD f args ρ Q X m σ1
inductive PMT (f:Value) (args:List Expr) (ρ:Rho) (Q:V->MH->Prop) (X:MH->Prop) (m:V) (σ1:MH):Prop where
  | mk (l:Addr) (es:List (List Key×V)) (e:m=.ref l) (h:σ1 l=some (.tdict es)) (q:ZD S F n args ρ σ1 (AQ (CalB S F n f ρ Q X) m) X):PMT f args ρ Q X m σ1
inductive PSet (ρ:Rho) (x:Str) (Q:MF->Rho->MH->Prop) (m:V) (σ1:MH):Prop where
  | mk (ρ':Rho) (u:UpdR ρ x m ρ') (q:Q .next ρ' σ1):PSet ρ x Q m σ1
noncomputable abbrev PRet (ρ:Rho) (Q:MF->Rho->MH->Prop) (m:V) (σ1:MH):Prop:=Q (.ret m) ρ σ1
inductive PExp (ρ:Rho) (Q:MF->Rho->MH->Prop) (m:V) (σ1:MH):Prop where
  | mk (h:m.byValue=true) (q:Q .next ρ σ1):PExp ρ Q m σ1
inductive PTup (Q:V->MH->Prop) (ms:List V) (σ1:MH):Prop where
  | mk (h:ms.length<=1000) (q:Q (.tup ms) σ1):PTup Q ms σ1
inductive PLst (Q:V->MH->Prop) (ms:List V) (σ1:MH):Prop where
  | mk (h:ms.length<=1000) (q:∀a,σ1 a=none->Q (.ref a) (σ1.set a (.list ms))):PLst Q ms σ1
noncomputable abbrev Op2R (t:Value->Value->Sem Value) (m1:V) (ρ:Rho) (Q:V->MH->Prop) (X:MH->Prop) (m2:V) (σ2:MH):Prop:=Z6 S F n t m1 m2 ρ σ2 Q X
noncomputable abbrev Op2L (r:Expr) (t:Value->Value->Sem Value) (ρ:Rho) (Q:V->MH->Prop) (X:MH->Prop) (m1:V) (σ1:MH):Prop:=WE S F n (eval r F.env) ρ σ1 (Op2R S F n t m1 ρ Q X) X
inductive PBool (QB:Bool->MH->Prop) (m:V) (σ1:MH):Prop where
  | mk (b:Bool) (e:m=.bool b) (q:QB b σ1):PBool QB m σ1
inductive PNeg (Q:V->MH->Prop) (m:V) (σ1:MH):Prop where
  | mk (a:Int) (e:m=.int a) (q:Q (.int (-a)) σ1):PNeg Q m σ1
inductive PNot (Q:V->MH->Prop) (m:V) (σ1:MH):Prop where
  | mk (b:Bool) (e:m=.bool b) (q:Q (.bool (!b)) σ1):PNot Q m σ1
end
section
variable {S:Sys} {F:Frm} {n:Nat×Nat} {ρ:Rho} {σ:MH} {Q Q':V->MH->Prop} {X:MH->Prop} {QB:Bool->MH->Prop} {QL:List V->MH->Prop} {QF:MF->Rho->MH->Prop}
theorem WE.to {t:Sem Value} (h:WE S F n t ρ σ Q' X) (k:∀m σ',Q' m σ'->Q m σ'):WE S F n t ρ σ Q X:=WE.conseq h λm σ' q=>⟨σ',Ext.refl _,k m σ' q⟩
theorem ZD.to {es:List Expr} {QL':List V->MH->Prop} (h:ZD S F n es ρ σ QL' X) (k:∀m σ',QL' m σ'->QL m σ'):ZD S F n es ρ σ QL X:=by
  intro A s hR x;refine wpAny_mono (h A s hR x) ?_ λ_ _ z=>z;rintro v s1 ⟨m,σ',y,x1,r,q⟩;exact ⟨m,σ',y,x1,r,k m σ' q⟩
theorem fCons {e:Expr} {r:List Expr} (h:WE S F n (eval e F.env) ρ σ (ACons S F n r ρ QL X) X):ZD S F n (e::r) ρ σ QL X:=aCons h
theorem fFld (ok:SysOk S) {e:Expr} {x:Str} {pos:Pos} (h:WE S F n (eval e F.env) ρ σ (PFld S x Q) X)
    (he:eval (.Attribute e x pos) F.env=(do
          let o<-eval e F.env
          standAt (Pos.atName pos)
          let r<-holding [o] (getAttr o x true)
          letTemporaryGo e o r
          pure r)):WE S F n (eval (.Attribute e x pos) F.env) ρ σ Q X:=
  rFld ok (h.to λm σ' q=>by cases q with | mk C d ms i v e h f g q=>exact ⟨C,d,ms,i,v,e,h,f,g,q⟩) he
theorem fMth (ok:SysOk S) {k:Nat} {o:Expr} {name:Str} {apos pos:Pos} {args:List Expr} {pl:Sem Bool} (hp:args.all Zt=true) (hk:k<=n.1)
    (h:WE S F n (eval o F.env) ρ σ (PMth S F n k name args ρ Q X) X)
    (he:eval (.Call (.Attribute o name apos) args [] pos) F.env=(do
      let ov<-eval o F.env
      standAt apos.atName
      let (f,first)<-holding [ov] (getMethod ov name pl)
      callWith pos f first (backTo pos (starEach args F.env)) [])):WE S F n (eval (.Call (.Attribute o name apos) args [] pos) F.env) ρ σ Q X:=
  rMth ok hp hk (h.to λm σ' q=>by cases q with | mk C d ms f e h g q=>exact ⟨C,d,ms,f,e,h,g,q⟩) he
theorem fMList {id:String} {o:Expr} {name:Str} {apos pos:Pos} {args:List Expr} {pl:Sem Bool} (slot:Slot "list" name id) (hty:typeOf (.builtin id)=pure (.type "method_descriptor")) (hp:args.all Zt=true)
    (h:WE S F n (eval o F.env) ρ σ (PML S F n (.builtin id) args ρ Q X) X)
    (he:eval (.Call (.Attribute o name apos) args [] pos) F.env=(do
      let ov<-eval o F.env
      standAt apos.atName
      let (f,first)<-holding [ov] (getMethod ov name pl)
      callWith pos f first (backTo pos (starEach args F.env)) [])):WE S F n (eval (.Call (.Attribute o name apos) args [] pos) F.env) ρ σ Q X:=
  rMList slot hty hp (h.to λm σ' q=>by cases q with | mk l ms e h q=>exact ⟨l,ms,e,h,q⟩) he
theorem fMDict {id:String} {o:Expr} {name:Str} {apos pos:Pos} {args:List Expr} {pl:Sem Bool} (slot:Slot "dict" name id) (hty:typeOf (.builtin id)=pure (.type "method_descriptor")) (hp:args.all Zt=true)
    (h:WE S F n (eval o F.env) ρ σ (PMD S F n (.builtin id) args ρ Q X) X)
    (he:eval (.Call (.Attribute o name apos) args [] pos) F.env=(do
      let ov<-eval o F.env
      standAt apos.atName
      let (f,first)<-holding [ov] (getMethod ov name pl)
      callWith pos f first (backTo pos (starEach args F.env)) [])):WE S F n (eval (.Call (.Attribute o name apos) args [] pos) F.env) ρ σ Q X:=
  rMDict slot hty hp (h.to λm σ' q=>by cases q with | mk l ms e h q=>exact ⟨l,ms,e,h,q⟩) he
theorem fMTDict {id:String} {o:Expr} {name:Str} {apos pos:Pos} {args:List Expr} {pl:Sem Bool} (slot:Slot "dict" name id) (hty:typeOf (.builtin id)=pure (.type "method_descriptor")) (hp:args.all Zt=true)
    (h:WE S F n (eval o F.env) ρ σ (PMT S F n (.builtin id) args ρ Q X) X)
    (he:eval (.Call (.Attribute o name apos) args [] pos) F.env=(do
      let ov<-eval o F.env
      standAt apos.atName
      let (f,first)<-holding [ov] (getMethod ov name pl)
      callWith pos f first (backTo pos (starEach args F.env)) [])):WE S F n (eval (.Call (.Attribute o name apos) args [] pos) F.env) ρ σ Q X:=
  rMTDict slot hty hp (h.to λm σ' q=>by cases q with | mk l ms e h q=>exact ⟨l,ms,e,h,q⟩) he
theorem fCallFn (ok:SysOk S) {k:Nat} {f:Str} {a:Addr} {p pos:Pos} {args:List Expr} (hg:gOk S F f (.ref a)) (hp:args.all Zt=true) (hkp:keepIn S.K (.ref a)=true) (hk:k<=n.1)
    (h:ZD S F n args ρ σ (CalP S k a Q) X):WE S F n (eval (.Call (.Name f p) args [] pos) F.env) ρ σ Q X:=rCallFn ok hg hp hkp hk h
theorem fCallB (ok:SysOk S) {f:Str} {id:String} {p pos:Pos} {args:List Expr} (hg:bOk S F f (.builtin id)) (hp:args.all Zt=true)
    (h:ZD S F n args ρ σ (CalB S F n (.builtin id) ρ Q X) X):WE S F n (eval (.Call (.Name f p) args [] pos) F.env) ρ σ Q X:=rCallB ok hg hp h
theorem fCallT (ok:SysOk S) {f:Str} {T:String} {p pos:Pos} {args:List Expr} (hg:bOk S F f (.type T)) (hp:args.all Zt=true)
    (h:ZD S F n args ρ σ (CalB S F n (.type T) ρ Q X) X):WE S F n (eval (.Call (.Name f p) args [] pos) F.env) ρ σ Q X:=rCallT ok hg hp h
theorem fSet {x:Str} {pos' pos:Pos} {e:Expr} (h:WE S F n (eval e F.env) ρ σ (PSet ρ x QF) X) (hF:F.isFn=true\/F.env.kindOf x=some .local)
    (hs:swapsWith e (some (.Name x pos')) pos.line F.env=pure false):WS S F n (exec (.Assign [.Name x pos'] e pos) F.env) ρ σ QF X:=
  sSet (h.to λm σ' q=>by cases q with | mk ρ' u q=>exact ⟨ρ',u,q⟩) hF hs
theorem fRet {e:Expr} {pos:Pos} (h:WE S F n (eval e F.env) ρ σ (PRet ρ QF) X):WS S F n (exec (.Return (some e) pos) F.env) ρ σ QF X:=sRet h
theorem fExpr {e:Expr} {pos:Pos} (h:WE S F n (eval e F.env) ρ σ (PExp ρ QF) X) (hs:swapsWith e none pos.line F.env=pure false):WS S F n (exec (.Expr e pos) F.env) ρ σ QF X:=
  sExpr (h.to λm σ' q=>by cases q with | mk h q=>exact ⟨h,q⟩) hs
theorem fTup {es:List Expr} {k:Nat} {pos:Pos} (h:ZD S F n es ρ σ (PTup Q) X) (hp:es.all Zt=true):WE S F n (eval (.Tuple es k pos) F.env) ρ σ Q X:=
  rTup (h.to λm σ' q=>by cases q with | mk h q=>exact ⟨h,q⟩) hp
theorem fList {es:List Expr} {pos:Pos} (h:ZD S F n es ρ σ (PLst Q) X) (hp:es.all Zt=true):WE S F n (eval (.List es pos) F.env) ρ σ Q X:=
  rList (h.to λm σ' q=>by cases q with | mk h q=>exact ⟨h,q⟩) hp
theorem fBin {l r:Expr} {op:Operator} {pos:Pos} (h:WE S F n (eval l F.env) ρ σ (Op2L S F n r (binaryOp op) ρ Q X) X):WE S F n (eval (.BinOp l op r pos) F.env) ρ σ Q X:=rBin h
theorem fCmp {l r:Expr} {op:CmpOp} {pos:Pos} (h:WE S F n (eval l F.env) ρ σ (Op2L S F n r (compareOp op) ρ Q X) X) (hb:behindInMarks op r=false):WE S F n (eval (.Compare l [op] [r] pos) F.env) ρ σ Q X:=rCmp h hb
theorem fSubI {l r:Expr} {pos:Pos} (h:WE S F n (eval l F.env) ρ σ (Op2L S F n r (subscriptTail l r) ρ Q X) X) (hr:YJ r=true):WE S F n (eval (.Subscript l r pos) F.env) ρ σ Q X:=rSubI h hr
theorem gCmp {l r:Expr} {op:CmpOp} {pos:Pos} {whole:Sem Value} (h:WE S F n (eval l F.env) ρ σ (Op2L S F n r (compareOp op) ρ (PBool QB) X) X) (hb:behindInMarks op r=false) :
    WB S F n (isTrue (.Compare l [op] [r] pos) F.env whole) ρ σ QB X:=
  tCmp (WE.to h λm1 σ1 h1=>WE.to h1 λm2 σ2 h2=>by
    intro u1 u2 A s hR x r1 r2;refine wpAny_mono (h2 u1 u2 A s hR x r1 r2) ?_ λ_ _ z=>z;rintro v s1 ⟨m,σ',y,x1,r,q⟩;cases q with | mk b e q=>exact ⟨m,σ',y,x1,r,b,e,q⟩) hb
theorem Xu {e:Expr} {whole:Sem Value} (h:WE S F n whole ρ σ (PBool QB) X)
    (hd:isTrue e F.env whole=(do let v<-whole;standAt e.pos;holding [v] (truthy v))):WB S F n (isTrue e F.env whole) ρ σ QB X:=
  tPlain (h.to λm σ' q=>by cases q with | mk b e q=>exact ⟨b,e,q⟩) hd
theorem fNeg {e:Expr} {pos:Pos} (h:WE S F n (eval e F.env) ρ σ (PNeg Q) X):WE S F n (eval (.UnaryOp .USub e pos) F.env) ρ σ Q X:=
  rNeg (h.to λm σ' q=>by cases q with | mk a e q=>exact ⟨a,e,q⟩)
theorem fNot {e:Expr} {pos:Pos} (h:WE S F n (eval e F.env) ρ σ (PNot Q) X):WE S F n (eval (.UnaryOp .Not e pos) F.env) ρ σ Q X:=
  rNot (h.to λm σ' q=>by cases q with | mk b e q=>exact ⟨b,e,q⟩)
end
set_option tactic.hygienic false
noncomputable def Zi (C:Addr):List Str:=if C=190 then ["heap","beneath","told","ways","many"] else if C=306 then ["nodes","numbers","weights","depths"] else if C=388 then ["above","lots","merged"] else if C=520 then ["bank","unions","edges","forest","known","above","waiting"] else []
noncomputable def SS (w:World) (h0:Heap):Sys:={ prog:=PySem.Challenge.rw_pq0083_01.row.prog,w:=w,K:=hd.heap_1 w.params,h0:=h0,flds:=Zi }
section
variable {w:World} {h0:Heap}
theorem Vm:((SS w h0).flds 190).Nodup:=by show (Zi 190).Nodup;decide +kernel
theorem ff_190_heap:Ya (SS w h0) 190 "heap" 0:=⟨by kernel_rfl,by kernel_rfl,Vm,by rfl⟩
theorem ff_190_beneath:Ya (SS w h0) 190 "beneath" 1:=⟨by kernel_rfl,by kernel_rfl,Vm,by rfl⟩
theorem ff_190_told:Ya (SS w h0) 190 "told" 2:=⟨by kernel_rfl,by kernel_rfl,Vm,by rfl⟩
theorem ff_190_ways:Ya (SS w h0) 190 "ways" 3:=⟨by kernel_rfl,by kernel_rfl,Vm,by rfl⟩
theorem ff_190_many:Ya (SS w h0) 190 "many" 4:=⟨by kernel_rfl,by kernel_rfl,Vm,by rfl⟩
theorem fm_190_want:Zu (SS w h0) 190 "want" 90:=⟨by kernel_rfl,by show (Zi 190).contains _=false;decide +kernel⟩
theorem fm_190_assume:Zu (SS w h0) 190 "assume" 97:=⟨by kernel_rfl,by show (Zi 190).contains _=false;decide +kernel⟩
theorem fm_190_way_down:Zu (SS w h0) 190 "way_down" 104:=⟨by kernel_rfl,by show (Zi 190).contains _=false;decide +kernel⟩
theorem fm_190_over:Zu (SS w h0) 190 "over" 109:=⟨by kernel_rfl,by show (Zi 190).contains _=false;decide +kernel⟩
theorem fm_190_find:Zu (SS w h0) 190 "find" 116:=⟨by kernel_rfl,by show (Zi 190).contains _=false;decide +kernel⟩
theorem fm_190_are_like:Zu (SS w h0) 190 "are_like" 123:=⟨by kernel_rfl,by show (Zi 190).contains _=false;decide +kernel⟩
theorem fm_190_join:Zu (SS w h0) 190 "join" 130:=⟨by kernel_rfl,by show (Zi 190).contains _=false;decide +kernel⟩
theorem fm_190_close_once:Zu (SS w h0) 190 "close_once" 135:=⟨by kernel_rfl,by show (Zi 190).contains _=false;decide +kernel⟩
theorem fm_190_renew:Zu (SS w h0) 190 "renew" 142:=⟨by kernel_rfl,by show (Zi 190).contains _=false;decide +kernel⟩
theorem fm_190_settle:Zu (SS w h0) 190 "settle" 149:=⟨by kernel_rfl,by show (Zi 190).contains _=false;decide +kernel⟩
theorem fm_190_merge:Zu (SS w h0) 190 "merge" 156:=⟨by kernel_rfl,by show (Zi 190).contains _=false;decide +kernel⟩
theorem fm_190_drop:Zu (SS w h0) 190 "drop" 163:=⟨by kernel_rfl,by show (Zi 190).contains _=false;decide +kernel⟩
theorem fm_190_classes:Zu (SS w h0) 190 "classes" 168:=⟨by kernel_rfl,by show (Zi 190).contains _=false;decide +kernel⟩
theorem fm_190_members:Zu (SS w h0) 190 "members" 173:=⟨by kernel_rfl,by show (Zi 190).contains _=false;decide +kernel⟩
theorem fn_190:V5 (SS w h0).K 190 83=true:=by kernel_rfl
theorem gl_Layers:nsIn (SS w h0).K mainGlobals "Layers"=some (some (.ref 190)):=by kernel_rfl
theorem WQ:((SS w h0).flds 306).Nodup:=by show (Zi 306).Nodup;decide +kernel
theorem ff_306_nodes:Ya (SS w h0) 306 "nodes" 0:=⟨by kernel_rfl,by kernel_rfl,WQ,by rfl⟩
theorem ff_306_numbers:Ya (SS w h0) 306 "numbers" 1:=⟨by kernel_rfl,by kernel_rfl,WQ,by rfl⟩
theorem ff_306_weights:Ya (SS w h0) 306 "weights" 2:=⟨by kernel_rfl,by kernel_rfl,WQ,by rfl⟩
theorem ff_306_depths:Ya (SS w h0) 306 "depths" 3:=⟨by kernel_rfl,by kernel_rfl,WQ,by rfl⟩
theorem fm_306_size:Zu (SS w h0) 306 "size" 225:=⟨by kernel_rfl,by show (Zi 306).contains _=false;decide +kernel⟩
theorem fm_306_take:Zu (SS w h0) 306 "take" 230:=⟨by kernel_rfl,by show (Zi 306).contains _=false;decide +kernel⟩
theorem fm_306_require:Zu (SS w h0) 306 "require" 237:=⟨by kernel_rfl,by show (Zi 306).contains _=false;decide +kernel⟩
theorem fm_306_put:Zu (SS w h0) 306 "put" 244:=⟨by kernel_rfl,by show (Zi 306).contains _=false;decide +kernel⟩
theorem fm_306_put_all:Zu (SS w h0) 306 "put_all" 249:=⟨by kernel_rfl,by show (Zi 306).contains _=false;decide +kernel⟩
theorem fm_306_op:Zu (SS w h0) 306 "op" 263:=⟨by kernel_rfl,by show (Zi 306).contains _=false;decide +kernel⟩
theorem fm_306_kids:Zu (SS w h0) 306 "kids" 270:=⟨by kernel_rfl,by show (Zi 306).contains _=false;decide +kernel⟩
theorem fm_306_node:Zu (SS w h0) 306 "node" 277:=⟨by kernel_rfl,by show (Zi 306).contains _=false;decide +kernel⟩
theorem fm_306_seek:Zu (SS w h0) 306 "seek" 303:=⟨by kernel_rfl,by show (Zi 306).contains _=false;decide +kernel⟩
theorem fn_306:V5 (SS w h0).K 306 218=true:=by kernel_rfl
theorem gl_Bank:nsIn (SS w h0).K mainGlobals "Bank"=some (some (.ref 306)):=by kernel_rfl
theorem Uz:((SS w h0).flds 388).Nodup:=by show (Zi 388).Nodup;decide +kernel
theorem ff_388_above:Ya (SS w h0) 388 "above" 0:=⟨by kernel_rfl,by kernel_rfl,Uz,by rfl⟩
theorem ff_388_lots:Ya (SS w h0) 388 "lots" 1:=⟨by kernel_rfl,by kernel_rfl,Uz,by rfl⟩
theorem ff_388_merged:Ya (SS w h0) 388 "merged" 2:=⟨by kernel_rfl,by kernel_rfl,Uz,by rfl⟩
theorem fm_388_make:Zu (SS w h0) 388 "make" 331:=⟨by kernel_rfl,by show (Zi 388).contains _=false;decide +kernel⟩
theorem fm_388_size:Zu (SS w h0) 388 "size" 338:=⟨by kernel_rfl,by show (Zi 388).contains _=false;decide +kernel⟩
theorem fm_388_find:Zu (SS w h0) 388 "find" 345:=⟨by kernel_rfl,by show (Zi 388).contains _=false;decide +kernel⟩
theorem fm_388_merge:Zu (SS w h0) 388 "merge" 352:=⟨by kernel_rfl,by show (Zi 388).contains _=false;decide +kernel⟩
theorem fm_388_members:Zu (SS w h0) 388 "members" 359:=⟨by kernel_rfl,by show (Zi 388).contains _=false;decide +kernel⟩
theorem fm_388_classes:Zu (SS w h0) 388 "classes" 364:=⟨by kernel_rfl,by show (Zi 388).contains _=false;decide +kernel⟩
theorem fn_388:V5 (SS w h0).K 388 324=true:=by kernel_rfl
theorem gl_Unions:nsIn (SS w h0).K mainGlobals "Unions"=some (some (.ref 388)):=by kernel_rfl
theorem Ju:((SS w h0).flds 520).Nodup:=by show (Zi 520).Nodup;decide +kernel
theorem ff_520_bank:Ya (SS w h0) 520 "bank" 0:=⟨by kernel_rfl,by kernel_rfl,Ju,by rfl⟩
theorem ff_520_unions:Ya (SS w h0) 520 "unions" 1:=⟨by kernel_rfl,by kernel_rfl,Ju,by rfl⟩
theorem ff_520_edges:Ya (SS w h0) 520 "edges" 2:=⟨by kernel_rfl,by kernel_rfl,Ju,by rfl⟩
theorem ff_520_forest:Ya (SS w h0) 520 "forest" 3:=⟨by kernel_rfl,by kernel_rfl,Ju,by rfl⟩
theorem ff_520_known:Ya (SS w h0) 520 "known" 4:=⟨by kernel_rfl,by kernel_rfl,Ju,by rfl⟩
theorem ff_520_above:Ya (SS w h0) 520 "above" 5:=⟨by kernel_rfl,by kernel_rfl,Ju,by rfl⟩
theorem ff_520_waiting:Ya (SS w h0) 520 "waiting" 6:=⟨by kernel_rfl,by kernel_rfl,Ju,by rfl⟩
theorem fm_520_size:Zu (SS w h0) 520 "size" 413:=⟨by kernel_rfl,by show (Zi 520).contains _=false;decide +kernel⟩
theorem fm_520_node:Zu (SS w h0) 520 "node" 418:=⟨by kernel_rfl,by show (Zi 520).contains _=false;decide +kernel⟩
theorem fm_520_add:Zu (SS w h0) 520 "add" 423:=⟨by kernel_rfl,by show (Zi 520).contains _=false;decide +kernel⟩
theorem fm_520_put:Zu (SS w h0) 520 "put" 428:=⟨by kernel_rfl,by show (Zi 520).contains _=false;decide +kernel⟩
theorem fm_520_look_at:Zu (SS w h0) 520 "look_at" 435:=⟨by kernel_rfl,by show (Zi 520).contains _=false;decide +kernel⟩
theorem fm_520_find:Zu (SS w h0) 520 "find" 442:=⟨by kernel_rfl,by show (Zi 520).contains _=false;decide +kernel⟩
theorem fm_520_are_like:Zu (SS w h0) 520 "are_like" 449:=⟨by kernel_rfl,by show (Zi 520).contains _=false;decide +kernel⟩
theorem fm_520_merge:Zu (SS w h0) 520 "merge" 456:=⟨by kernel_rfl,by show (Zi 520).contains _=false;decide +kernel⟩
theorem fm_520_join:Zu (SS w h0) 520 "join" 463:=⟨by kernel_rfl,by show (Zi 520).contains _=false;decide +kernel⟩
theorem fm_520_settle:Zu (SS w h0) 520 "settle" 470:=⟨by kernel_rfl,by show (Zi 520).contains _=false;decide +kernel⟩
theorem fm_520_classes:Zu (SS w h0) 520 "classes" 484:=⟨by kernel_rfl,by show (Zi 520).contains _=false;decide +kernel⟩
theorem fm_520_members:Zu (SS w h0) 520 "members" 491:=⟨by kernel_rfl,by show (Zi 520).contains _=false;decide +kernel⟩
theorem fm_520_seek:Zu (SS w h0) 520 "seek" 510:=⟨by kernel_rfl,by show (Zi 520).contains _=false;decide +kernel⟩
theorem fn_520:V5 (SS w h0).K 520 406=true:=by kernel_rfl
theorem gl_Heap:nsIn (SS w h0).K mainGlobals "Heap"=some (some (.ref 520)):=by kernel_rfl
theorem QS:nsIn (SS w h0).K mainGlobals "followed"=some (some (.ref 69)):=by kernel_rfl
theorem Qi:keepIn (SS w h0).K (.ref 69)=true:=by kernel_rfl
theorem gl_is_op:nsIn (SS w h0).K mainGlobals "is_op"=some (some (.ref 199)):=by kernel_rfl
theorem kp_is_op:keepIn (SS w h0).K (.ref 199)=true:=by kernel_rfl
theorem ZS:nsIn (SS w h0).K mainGlobals "_law_pick"=some (some (.ref 531)):=by kernel_rfl
theorem ZT:keepIn (SS w h0).K (.ref 531)=true:=by kernel_rfl
theorem Qm:nsIn (SS w h0).K mainGlobals "_law_hand"=some (some (.ref 536)):=by kernel_rfl
theorem Qk:keepIn (SS w h0).K (.ref 536)=true:=by kernel_rfl
theorem JW:nsIn (SS w h0).K mainGlobals "_law_homes"=some (some (.ref 541)):=by kernel_rfl
theorem JO:keepIn (SS w h0).K (.ref 541)=true:=by kernel_rfl
theorem Xp:nsIn (SS w h0).K mainGlobals "_law_grown_heap"=some (some (.ref 546)):=by kernel_rfl
theorem Xr:keepIn (SS w h0).K (.ref 546)=true:=by kernel_rfl
theorem Xc:nsIn (SS w h0).K mainGlobals "_law_layer_right"=some (some (.ref 551)):=by kernel_rfl
theorem Xe:keepIn (SS w h0).K (.ref 551)=true:=by kernel_rfl
theorem Jt:nsIn (SS w h0).K mainGlobals "_law_tower_right"=some (some (.ref 558)):=by kernel_rfl
theorem Jy:keepIn (SS w h0).K (.ref 558)=true:=by kernel_rfl
theorem gl_law:nsIn (SS w h0).K mainGlobals "law"=some (some (.ref 563)):=by kernel_rfl
theorem gl_BASE:nsIn (SS w h0).K mainGlobals "BASE"=some (some (.int (-1) 253)):=by kernel_rfl
theorem Z1:nsIn (SS w h0).K mainGlobals "len"=some none/\bootBuiltins "len"=some (.builtin "len"):=⟨by kernel_rfl,by decide +kernel⟩
theorem XA:nsIn (SS w h0).K mainGlobals "sorted"=some none/\bootBuiltins "sorted"=some (.builtin "sorted"):=⟨by kernel_rfl,by decide +kernel⟩
theorem bt_sum:nsIn (SS w h0).K mainGlobals "sum"=some none/\bootBuiltins "sum"=some (.builtin "sum"):=⟨by kernel_rfl,by decide +kernel⟩
theorem Uk:nsIn (SS w h0).K mainGlobals "max"=some none/\bootBuiltins "max"=some (.builtin "max"):=⟨by kernel_rfl,by decide +kernel⟩
theorem bt_min:nsIn (SS w h0).K mainGlobals "min"=some none/\bootBuiltins "min"=some (.builtin "min"):=⟨by kernel_rfl,by decide +kernel⟩
theorem bt_abs:nsIn (SS w h0).K mainGlobals "abs"=some none/\bootBuiltins "abs"=some (.builtin "abs"):=⟨by kernel_rfl,by decide +kernel⟩
theorem YK:nsIn (SS w h0).K mainGlobals "range"=some none/\bootBuiltins "range"=some (.type "range"):=⟨by kernel_rfl,by decide +kernel⟩
theorem XE:nsIn (SS w h0).K mainGlobals "tuple"=some none/\bootBuiltins "tuple"=some (.type "tuple"):=⟨by kernel_rfl,by decide +kernel⟩
theorem WF:nsIn (SS w h0).K mainGlobals "list"=some none/\bootBuiltins "list"=some (.type "list"):=⟨by kernel_rfl,by decide +kernel⟩
theorem Uw:nsIn (SS w h0).K mainGlobals "set"=some none/\bootBuiltins "set"=some (.type "set"):=⟨by kernel_rfl,by decide +kernel⟩
theorem XS:nsIn (SS w h0).K mainGlobals "enumerate"=some none/\bootBuiltins "enumerate"=some (.type "enumerate"):=⟨by kernel_rfl,by decide +kernel⟩
theorem bkOf {F:Frm} {sc:Scope} {x:Str} {v:Value} (b:nsIn (SS w h0).K mainGlobals x=some none/\bootBuiltins x=some v) (hF:F.env.scope=sc) (hl:sc.names.lookup x=some .globalImplicit) (h1:x≠"__name__") (h2:(x==("__debug__":Str))=false):bOk (SS w h0) F x v:=
  ⟨by rw [hF];exact hl,b.1,b.2,h1,h2⟩
theorem gkOf {F:Frm} {sc:Scope} {x:Str} {v:Value} (b:nsIn (SS w h0).K mainGlobals x=some (some v)) (hF:F.env.scope=sc) (hl:sc.names.lookup x=some .globalImplicit) (h2:(x==("__debug__":Str))=false):gOk (SS w h0) F x v:=
  ⟨by rw [hF];exact hl,b,h2⟩
end
set_option tactic.hygienic false
local macro_rules (kind := PySem.W.tacticKst_mem) | s => do
  let mut t : Lean.Syntax := Lean.mkIdent `List.mem_cons_self
  let mut l := #[t] ++ rdIds "rl_m0 rl_m1 rl_m2 rl_m3 rl_m4 rl_m5 rl_m6 rl_m7 rl_m8 rl_m9 rl_m10 rl_m11 rl_m12 rl_m13 rl_m14 rl_m15 rl_m16"
  for _ in [0:17] do
    t := rd #[t] "[ #List.mem_cons_of_mem _ $0 ]"
    l := l.push t
  return rd #[rdF (rdM "{ (e $0 ) }" l)] "(w { $0 } )"
local macro_rules (kind := PySem.W.tacticKd_facts) | s => return rd #[rdF (rdM "{ (e $0 ) }" (rdIds "ff_190_heap ff_190_beneath ff_190_told ff_190_ways ff_190_many ff_306_nodes ff_306_numbers ff_306_weights ff_306_depths ff_388_above ff_388_lots ff_388_merged ff_520_bank ff_520_unions ff_520_edges ff_520_forest ff_520_known ff_520_above ff_520_waiting"))] "(w { $0 } )"
local macro_rules (kind := PySem.W.tacticKd_mem) | s => return rd #[rdF (rdM "{ (e $0 ) }" (rdIds "fm_190_want fm_190_assume fm_190_way_down fm_190_over fm_190_find fm_190_are_like fm_190_join fm_190_close_once fm_190_renew fm_190_settle fm_190_merge fm_190_drop fm_190_classes fm_190_members fm_306_size fm_306_take fm_306_require fm_306_put fm_306_put_all fm_306_op fm_306_kids fm_306_node fm_306_seek fm_388_make fm_388_size fm_388_find fm_388_merge fm_388_members fm_388_classes fm_520_size fm_520_node fm_520_add fm_520_put fm_520_look_at fm_520_find fm_520_are_like fm_520_merge fm_520_join fm_520_settle fm_520_classes fm_520_members fm_520_seek"))] "(w { $0 } )"
local macro_rules (kind := PySem.W.tacticKd_adr) | s => do
  let is := rdIds "Inv.d Inv.b Inv.u Inv.nl Inv.nm Inv.wl Inv.dl Inv.ab Inv.lt Inv.mg Inv.ed Inv.fo Inv.kn Inv.av Inv.wt Inv.ly Inv.bn Inv.td Inv.wy"
  return rd #[rdF (#[rd #[] "{ (T.assumption 'assumption ) }"] ++ rdM "{ (e [ $0 (y { (T.assumption 'assumption ) } ) ] ) }" is ++ #[rd #[] "{ (e [ #MH.set_same (M.ellipsis '.. ) ] ) }", rd #[] "{ (e [ #Inv.x' (y { (T.assumption 'assumption ) } ) ] ) }"] ++ rdM "{ (e [ $0 [ #Inv.garb (y { (T.assumption 'assumption ) } ) (y { (T.assumption 'assumption ) } ) ] ] ) }" is)] "(w { $0 } )"
local macro_rules (kind := PySem.W.tacticW_left) | s => do
  let mut t : Lean.Syntax := Lean.mkIdent `UpdR.head
  let mut us := #[t] ++ rdIds "rl_u0 rl_u1 rl_u2 rl_u3 rl_u4 rl_u5 rl_u6 rl_u7 rl_u8 rl_u9 rl_u10 rl_u11 rl_u12 rl_u13 rl_u14 rl_u15 rl_u16"
  for _ in [0:15] do
    t := rd #[t] "[ #UpdR.tail $0 ]"
    us := us.push t
  let one := "{ (w { (r [ $0 ?_ ] ) } ) }"
  let f ← rdNew
  return rdF (rdM one (rdIds "sOne") ++ #[rd #[] (f := f) "{ (w { (r [ #sConsK (M.fun 'fun (M.basicFun (n #Ks #hKs ) (n ) '=> ?_ ) ) ] ) } ) }"]
    ++ rdM "{ (w { (r [ $0 (y { (T.assumption 'assumption ) } ) ?_ ] ) } ) }" (rdIds "unSeq unK unSeqR unLoop unWh unLoopR unWhR unLoopC unWhC unLoopB unWhB unSeqC unSeqB")
    ++ #[rd #[] (f := f) "{ (w { (T.refine' 'refine' [ #rName ?mx ?hx ] ) } ) ; (c &mx { (PySem.W.tacticKst_mem 'kst_mem ) } ) }",
      rd #[] (f := f) "{ (w { (T.refine' 'refine' [ #rGInt (y { (T.assumption 'assumption ) } ) ?gx ?_ ] ) } ) ; (c &gx { (e [ #gkOf #gl_BASE (y { (T.assumption 'assumption ) } ) (y { (e #rfl ) } ) (y { (T.decide 'decide (T.optConfig (n ) ) ) } ) ] ) } ) }"]
    ++ rdM one (rdIds "fRet sIf sPass waNil sNil rInt tAnd tOr rStr rBool rNone fBin rRevL rIfExp fNeg fNot aNil fCons tNot")
    ++ rdM (f := f) "{ (w { (r [ $0 ?hx ?sx ] ) } ) ; (c &sx { (e #rfl ) } ) }" (rdIds "fExpr fCmp fSubI fTup fList gCmp")
    ++ #[rd #[] (f := f) "{ (w { (r [ #fSet ?_ [ #Or.inl (y { (T.assumption 'assumption ) } ) ] ?sx ] ) } ) ; (c &sx { (e #rfl ) } ) }", rd #[] (f := f) "{ (w { (r [ #fFld (y { (T.assumption 'assumption ) } ) ?hx ?sx ] ) } ) ; (c &sx { (e #rfl ) } ) }",
      rd #[rdF (rdM "{ (e $0 ) }" us)] (f := f) "{ (w { (T.refine' 'refine' (M.anonymousCtor '⟨ (n _ ', ?ux ', ?_ ) '⟩ ) ) } ) ; (c &ux { (w { $0 } ) } ) }",
      rd #[] (f := f) "{ (w { (T.refine' 'refine' (M.anonymousCtor '⟨ (n _ ', _ ', _ ', _ ', _ ', #rfl ', ?kqa ', ?kqf ', ?kqr ', ?_ ) '⟩ ) ) } ) ; (c &kqa { (PySem.W.tacticKd_adr 'kd_adr ) } ) ; (c &kqf { (PySem.W.tacticKd_facts 'kd_facts ) } ) ; (c &kqr { (e #rfl ) } ) }"])
local macro_rules (kind := PySem.W.tacticW_fin) | s => return rd #[] "(T.tacticRepeat_ 'repeat { (PySem.W.tacticW_left 'w_left ) } )"
local macro_rules (kind := PySem.W.tacticKtf_call_) | s => return rd #[s[1]] "(p { (T.tacticRepeat_ 'repeat { (PySem.W.tacticW_left 'w_left ) } ) ; (r [ #fMth (y { (T.assumption 'assumption ) } ) (M.namedArgument '( #k ':= $0 ') ) (y { (e #rfl ) } ) (y { (T.decide 'decide (T.optConfig (n ) ) ) } ) ?_ (y { (e #rfl ) } ) ] ) ; (T.tacticRepeat_ 'repeat { (PySem.W.tacticW_left 'w_left ) } ) ; (r [ #PMth.mk _ _ _ _ #rfl (y { (PySem.W.tacticKd_adr 'kd_adr ) } ) (y { (PySem.W.tacticKd_mem 'kd_mem ) } ) ?_ ] ) ; (T.tacticRepeat_ 'repeat { (PySem.W.tacticW_left 'w_left ) } ) } )"
local macro_rules (kind := PySem.W.tacticTbr_iter_) | s => return rd #[s[1]] "(p { (T.tacticRepeat_ 'repeat { (PySem.W.tacticW_left 'w_left ) } ) ; (T.first 'first (n (group '| { (r [ #fCallB (y { (T.assumption 'assumption ) } ) [ #bkOf $0 (y { (T.assumption 'assumption ) } ) (y { (e #rfl ) } ) (y { (T.decide 'decide (T.optConfig (n ) ) ) } ) (y { (T.decide 'decide (T.optConfig (n ) ) ) } ) ] (y { (e #rfl ) } ) ?_ ] ) } ) (group '| { (r [ #fCallT (y { (T.assumption 'assumption ) } ) [ #bkOf $0 (y { (T.assumption 'assumption ) } ) (y { (e #rfl ) } ) (y { (T.decide 'decide (T.optConfig (n ) ) ) } ) (y { (T.decide 'decide (T.optConfig (n ) ) ) } ) ] (y { (e #rfl ) } ) ?_ ] ) } ) ) ) ; (T.tacticRepeat_ 'repeat { (PySem.W.tacticW_left 'w_left ) } ) } )"
local macro_rules (kind := PySem.W.tacticTb_from____) | s => return rd #[s[1]] "(T.first 'first (n (group '| { (T.tacticRepeat_ 'repeat { (PySem.W.tacticW_left 'w_left ) } ) ; (r [ #fMList $0 (y { (e #rfl ) } ) (y { (e #rfl ) } ) ?_ (y { (e #rfl ) } ) ] ) ; (T.tacticRepeat_ 'repeat { (PySem.W.tacticW_left 'w_left ) } ) ; (r [ #PML.mk _ _ #rfl (y { (PySem.W.tacticKd_adr 'kd_adr ) } ) ?_ ] ) ; (T.tacticRepeat_ 'repeat { (PySem.W.tacticW_left 'w_left ) } ) } ) (group '| { (T.tacticRepeat_ 'repeat { (PySem.W.tacticW_left 'w_left ) } ) ; (r [ #fMDict $0 (y { (e #rfl ) } ) (y { (e #rfl ) } ) ?_ (y { (e #rfl ) } ) ] ) ; (T.tacticRepeat_ 'repeat { (PySem.W.tacticW_left 'w_left ) } ) ; (r [ #PMD.mk _ _ #rfl (y { (PySem.W.tacticKd_adr 'kd_adr ) } ) ?_ ] ) ; (T.tacticRepeat_ 'repeat { (PySem.W.tacticW_left 'w_left ) } ) } ) (group '| { (T.tacticRepeat_ 'repeat { (PySem.W.tacticW_left 'w_left ) } ) ; (r [ #fMTDict $0 (y { (e #rfl ) } ) (y { (e #rfl ) } ) ?_ (y { (e #rfl ) } ) ] ) ; (T.tacticRepeat_ 'repeat { (PySem.W.tacticW_left 'w_left ) } ) ; (r [ #PMT.mk _ _ #rfl (y { (PySem.W.tacticKd_adr 'kd_adr ) } ) ?_ ] ) ; (T.tacticRepeat_ 'repeat { (PySem.W.tacticW_left 'w_left ) } ) } ) ) )"
local macro_rules (kind := PySem.W.tacticKtn_call___) | s => return rd #[s[1], s[2]] "(p { (T.tacticRepeat_ 'repeat { (PySem.W.tacticW_left 'w_left ) } ) ; (r [ #fCallFn (y { (T.assumption 'assumption ) } ) [ #gkOf $0 (y { (T.assumption 'assumption ) } ) (y { (e #rfl ) } ) (y { (T.decide 'decide (T.optConfig (n ) ) ) } ) ] (y { (e #rfl ) } ) $1 [ #Nat.le_refl _ ] ?_ ] ) ; (T.tacticRepeat_ 'repeat { (PySem.W.tacticW_left 'w_left ) } ) } )"
section
variable {w:World} {h0:Heap}
theorem bank_size (ok:SysOk (SS w h0)) {d ln:Addr} {nodes r:List V} {σ:MH} (h1:σ d=some (.flds 306 (.ref ln::r))) (h2:σ ln=some (.list nodes)) (hz:nodes.length<1000) :
    Fn (SS w h0) 1 (.ref 225) [.inst 306 d] σ (λm σ'=>σ'=σ/\m=.int nodes.length):=by
  refine' Fn.introK (k:=0) (ps:=["self"]) ok ?h1 ?h2 ?h3 ?h4 ?h5 ?h6 ?h7 ?h8 ?h9 ?b ?h10 (ρ₀:=[("self",some (.inst 306 d))]) ?h11 ?h12
  case h1 | h3 | h4 | h5 | h6 | h7 | h8 | h9 | h11=>exact rfl
  case h2=>kernel_rfl
  case h10=>decide +kernel
  case b=>intro us h;obtain ⟨_,rfl⟩:=len1 h;exact rfl
  intro K_ hK_ F hF hFn;w_left;w_left;refine fCallB ok (id:="len") (bkOf Z1 hF (by exact rfl) (by decide) (by decide)) (by exact rfl) ?_;repeat w_left
  exact YG h2 (by lia) (unK hK_ ⟨rfl,rfl⟩)
end
set_option tactic.hygienic false
section
variable {w:World} {h0:Heap}
theorem Qg (ok:SysOk (SS w h0)) {d ab:Addr} {above r:List V} {σ:MH} (h1:σ d=some (.flds 388 (.ref ab::r))) (h2:σ ab=some (.list above)) (hz:above.length<1000) :
    Fn (SS w h0) 1 (.ref 338) [.inst 388 d] σ (λm σ'=>σ'=σ/\m=.int above.length):=by
  refine' Fn.introK (k:=0) (ps:=["self"]) ok ?h1 ?h2 ?h3 ?h4 ?h5 ?h6 ?h7 ?h8 ?h9 ?b ?h10 (ρ₀:=[("self",some (.inst 388 d))]) ?h11 ?h12
  case h1 | h3 | h4 | h5 | h6 | h7 | h8 | h9 | h11=>exact rfl
  case h2=>kernel_rfl
  case h10=>decide +kernel
  case b=>intro us h;obtain ⟨_,rfl⟩:=len1 h;exact rfl
  intro K_ hK_ F hF hFn;w_left;w_left;refine fCallB ok (id:="len") (bkOf Z1 hF (by exact rfl) (by decide) (by decide)) (by exact rfl) ?_;repeat w_left
  exact YG h2 (by lia) (unK hK_ ⟨rfl,rfl⟩)
theorem QW (ok:SysOk (SS w h0)) {d l:Addr} {ab:List Nat} {r:List V} {σ:MH} {a:Nat} (h1:σ d=some (.flds 388 (.ref l::r))) (h2:σ l=some (.list (ab.map λ(i:Nat)=>V.int i))) (u:Vz ab) (ha:a<ab.length) (hz:ab.length<1000) :
    Fn (SS w h0) 1 (.ref 345) [.inst 388 d,.int a] σ (λm σ'=>σ'=σ/\m=.int (root ab a)):=by
  refine' Fn.introK (k:=0) (ps:=["self","a"]) ok ?h1 ?h2 ?h3 ?h4 ?h5 ?h6 ?h7 ?h8 ?h9 ?b ?h10 (ρ₀:=[("self",some (.inst 388 d)),("a",some (.int a))]) ?h11 ?h12
  case h1 | h3 | h4 | h5 | h6 | h7 | h8 | h9 | h11=>exact rfl
  case h2=>kernel_rfl
  case h10=>decide +kernel
  case b=>intro us h;obtain ⟨_,_,rfl⟩:=len2 h;exact rfl
  intro K_ hK_ F hF hFn;w_fin;refine Jk (λ(k:Nat) (ρ:Rho) (σ':MH)=>A4 (σ'=σ) (k<ab.length) (ρ=([("self",some (V.inst 388 d)),("a",some (V.int k))]:Rho)) (root ab k=root ab a)) a ⟨rfl,ha,rfl,rfl⟩ ?_;rintro k Kc hKc ρ σ' ⟨rfl,hk,rfl,hr⟩;have hget:(ab.map λ(i:Nat)=>V.int i)[(k:Int).toNat]?=some (.int (ab.getD k k)):=by
    simp [List.getD,hk]
  w_left;w_left;w_left;w_left;w_left;w_left;refine ZX h2 (by lia) (by lia) hget ?_ (by exact rfl);w_left;refine Vh ⟨_,rfl,?_⟩;by_cases hne:ab.getD k k=k
  · have e:((((ab.getD k k:Nat):Int)) != ((k:Nat):Int))=false:=by rw [hne];simp
    rw [e];simp only [Bool.false_eq_true,if_false];w_fin;refine ⟨rfl,?_⟩;rw [<-hr,Xy u k,if_pos hne];rfl
  · have e:((((ab.getD k k:Nat):Int)) != ((k:Nat):Int))=true:=by
      simp only [bne_iff_ne,ne_eq];lia
    rw [e];simp only [if_true];have hlt:ab.getD k k<k:=by
      have h1:=u k hk;have h2:ab.getD k k=ab[k]:=by simp [List.getD,hk]
      lia
    w_left;refine fSet ?_ (.inl hFn) (by exact rfl);w_left;w_left;w_left;w_left;w_left;refine ZX h2 (by lia) (by lia) hget ?_ (by exact rfl);refine ⟨_,UpdR.tail UpdR.head,?_⟩;w_left;refine ⟨ab.getD k k,hlt,rfl,by lia,rfl,?_⟩;rw [<-hr,Xy u k,if_neg hne]
end
set_option tactic.hygienic false
section
variable {w:World} {h0:Heap}
theorem bank_op (ok:SysOk (SS w h0)) {d l:Addr} {nodes r:List V} {σ:MH} {i:Nat} {op:V} {kids:List V} (h1:σ d=some (.flds 306 (.ref l::r))) (h2:σ l=some (.list nodes)) (hn:nodes[i]?=some (.tup (op::kids))) (hi:i<1000) :
    Fn (SS w h0) 1 (.ref 263) [.inst 306 d,.int i] σ (λm σ'=>σ'=σ/\m=op):=by
  refine' Fn.introK (k:=0) (ps:=["self","n"]) ok ?h1 ?h2 ?h3 ?h4 ?h5 ?h6 ?h7 ?h8 ?h9 ?b ?h10 (ρ₀:=[("self",some (.inst 306 d)),("n",some (.int i))]) ?h11 ?h12
  case h1 | h3 | h4 | h5 | h6 | h7 | h8 | h9 | h11=>exact rfl
  case h2=>kernel_rfl
  case h10=>decide +kernel
  case b=>intro us h;obtain ⟨_,_,rfl⟩:=len2 h;exact rfl
  intro K_ hK_ F hF hFn;repeat w_left
  refine ZX h2 (by lia) (by lia) (by simpa using hn) ?_ (by exact rfl);w_left;exact KS (by lia) (by lia) (by rfl) (unK hK_ ⟨rfl,rfl⟩) (by exact rfl)
theorem bank_kids (ok:SysOk (SS w h0)) {d l:Addr} {nodes r:List V} {σ:MH} {i:Nat} {op:V} {kids:List V} (h1:σ d=some (.flds 306 (.ref l::r))) (h2:σ l=some (.list nodes)) (hn:nodes[i]?=some (.tup (op::kids))) (hi:i<1000) (hk:kids.length<1000) :
    Fn (SS w h0) 1 (.ref 270) [.inst 306 d,.int i] σ (λm σ'=>σ'=σ/\m=.tup kids):=by
  refine' Fn.introK (k:=0) (ps:=["self","n"]) ok ?h1 ?h2 ?h3 ?h4 ?h5 ?h6 ?h7 ?h8 ?h9 ?b ?h10 (ρ₀:=[("self",some (.inst 306 d)),("n",some (.int i))]) ?h11 ?h12
  case h1 | h3 | h4 | h5 | h6 | h7 | h8 | h9 | h11=>exact rfl
  case h2=>kernel_rfl
  case h10=>decide +kernel
  case b=>intro us h;obtain ⟨_,_,rfl⟩:=len2 h;exact rfl
  intro K_ hK_ F hF hFn;w_left;w_left;refine Jh ?_;repeat w_left
  refine ZX h2 (by lia) (by lia) (by simpa using hn) ?_ (by exact rfl);refine ⟨_,rfl,?_⟩;w_left;exact ⟨1,rfl,by lia,by simp,by simp;lia,unK hK_ ⟨rfl,rfl⟩⟩
end
set_option tactic.hygienic false
section
variable {w:World} {h0:Heap}
theorem heap_size (ok:SysOk (SS w h0)) {d db l:Addr} {nodes r r2:List V} {σ:MH} (h0':σ d=some (.flds 520 (.inst 306 db::r2))) (h1:σ db=some (.flds 306 (.ref l::r))) (h2:σ l=some (.list nodes)) (hz:nodes.length<1000) :
    Fn (SS w h0) 2 (.ref 413) [.inst 520 d] σ (λm σ'=>σ'=σ/\m=.int nodes.length):=by
  refine' Fn.introK (k:=1) (ps:=["self"]) ok ?h1 ?h2 ?h3 ?h4 ?h5 ?h6 ?h7 ?h8 ?h9 ?b ?h10 (ρ₀:=[("self",some (.inst 520 d))]) ?h11 ?h12
  case h1 | h3 | h4 | h5 | h6 | h7 | h8 | h9 | h11=>exact rfl
  case h2=>kernel_rfl
  case h10=>decide +kernel
  case b=>intro us h;obtain ⟨_,rfl⟩:=len1 h;exact rfl
  intro K_ hK_ F hF hFn;w_left;w_left;refine fMth ok (k:=1) (by exact rfl) (by decide) ?_ (by exact rfl);repeat w_left
  refine ⟨_,_,_,_,rfl,h1,fm_306_size,?_⟩;w_left;exact (bank_size ok h1 h2 hz).toK hK_
end
set_option tactic.hygienic false
section
variable {w:World} {h0:Heap}
theorem heap_find (ok:SysOk (SS w h0)) {d b u l:Addr} {ab:List Nat} {r r2:List V} {σ:MH} {a:Nat} (h0':σ d=some (.flds 520 (.inst 306 b::.inst 388 u::r2))) (h1:σ u=some (.flds 388 (.ref l::r))) (h2:σ l=some (.list (ab.map λ(i:Nat)=>V.int i))) (hu:Vz ab) (ha:a<ab.length) (hz:ab.length<1000) :
    Fn (SS w h0) 2 (.ref 442) [.inst 520 d,.int a] σ (λm σ'=>σ'=σ/\m=.int (root ab a)):=by
  refine' Fn.introK (k:=1) (ps:=["self","n"]) ok ?h1 ?h2 ?h3 ?h4 ?h5 ?h6 ?h7 ?h8 ?h9 ?b ?h10 (ρ₀:=[("self",some (.inst 520 d)),("n",some (.int a))]) ?h11 ?h12
  case h1 | h3 | h4 | h5 | h6 | h7 | h8 | h9 | h11=>exact rfl
  case h2=>kernel_rfl
  case h10=>decide +kernel
  case b=>intro us h;obtain ⟨_,_,rfl⟩:=len2 h;exact rfl
  intro K_ hK_ F hF hFn;w_left;w_left;refine fMth ok (k:=1) (by exact rfl) (by decide) ?_ (by exact rfl);repeat w_left
  refine ⟨_,_,_,_,rfl,h1,fm_388_find,?_⟩;repeat w_left
  exact (QW ok h1 h2 hu ha hz).toK hK_
end
set_option tactic.hygienic false
section
variable {w:World} {h0:Heap}
theorem V0 (ok:SysOk (SS w h0)) {l:Addr} {ws:YI} {σ:MH} {c:Nat} (h1:σ l=some (.dict (XV ws))) (hw:XD ws) :
    Fn (SS w h0) 1 (.ref 69) [.ref l,.int c] σ (λm σ'=>σ'=σ/\m=.int (fol ws c)):=by
  refine' Fn.introK (k:=0) (ps:=["ways","c"]) ok ?h1 ?h2 ?h3 ?h4 ?h5 ?h6 ?h7 ?h8 ?h9 ?b ?h10 (ρ₀:=[("ways",some (.ref l)),("c",some (.int c))]) ?h11 ?h12
  case h1 | h3 | h4 | h5 | h6 | h7 | h8 | h9 | h11=>exact rfl
  case h2=>kernel_rfl
  case h10=>decide +kernel
  case b=>intro us h;obtain ⟨_,_,rfl⟩:=len2 h;exact rfl
  intro K_ hK_ F hF hFn;w_fin;refine Jk (λ(k:Nat) (ρ:Rho) (σ':MH)=>A3 (σ'=σ) (ρ=([("ways",some (V.ref l)),("c",some (V.int k))]:Rho)) (fol ws k=fol ws c)) c ⟨rfl,rfl,rfl⟩ ?_;rintro k Kc hKc ρ σ' ⟨rfl,rfl,hr⟩;w_left;w_left;w_left;refine p_inD ok (k:=Sum.inr (k:Int)) rfl h1 ⟨_,rfl,?_⟩;rw [J6];cases e:ZY ws k with
  | none=>
    simp only [Option.map_none,Option.isSome_none,Bool.false_eq_true,if_false];repeat w_left
    refine ⟨rfl,?_⟩;rw [<-hr,Xk hw k,e];rfl
  | some d=>
    simp only [Option.map_some,Option.isSome_some,if_true];w_left;refine fSet ?_ (.inl hFn) (by exact rfl);w_left;w_left;w_left;refine Yc (k:=Sum.inr (k:Int)) rfl h1 (by rw [J6,e];rfl) ?_ (by exact rfl);refine ⟨_,UpdR.tail UpdR.head,?_⟩;w_left;refine ⟨d,YB hw e,rfl,rfl,?_⟩;rw [<-hr,Xk hw k,e]
end
set_option tactic.hygienic false
section
variable {w:World} {h0:Heap}
variable {σ:MH} {L:Lay} {h:HS} {l:Option LS} {ex:Nat->Option Zd}
theorem Vp (ok:SysOk (SS w h0)) (I:Inv σ L ⟨some h,l,ex⟩) (H:HOk h) :
    Fn (SS w h0) 2 (.ref 413) [.inst 520 (L .d)] σ (λm σ'=>σ'=σ/\m=.int h.nodes.length):=by
  have:=heap_size ok I.d I.b I.nl (by simp;have:=H.small;lia);simpa using this
theorem JH (ok:SysOk (SS w h0)) (I:Inv σ L ⟨some h,l,ex⟩) (H:h.ab.length<=60) :
    Fn (SS w h0) 1 (.ref 338) [.inst 388 (L .u)] σ (λm σ'=>σ'=σ/\m=.int h.ab.length):=by
  have:=Qg ok I.u I.ab (by simp [Za];lia);simpa [Za] using this
theorem Xg (ok:SysOk (SS w h0)) (I:Inv σ L ⟨some h,l,ex⟩) (H:HOk h) {a:Nat} (ha:a<h.nodes.length) :
    Fn (SS w h0) 2 (.ref 442) [.inst 520 (L .d),.int a] σ (λm σ'=>σ'=σ/\m=.int (root h.ab a)):=
  heap_find ok I.d I.u I.ab H.up (by rw [H.len];exact ha) (by rw [H.len];have:=H.small;lia)
theorem Q3 (ok:SysOk (SS w h0)) (I:Inv σ L ⟨some h,l,ex⟩) (H:h.nodes.length<=60) {i:Nat} {nd:Zp} (hn:h.nodes[i]?=some nd) :
    Fn (SS w h0) 1 (.ref 263) [.inst 306 (L .b),.int i] σ (λm σ'=>σ'=σ/\m=.str nd.1):=by
  have hi:i<h.nodes.length:=(List.getElem?_eq_some_iff.mp hn).1;exact bank_op (op:=.str nd.1) (kids:=Za nd.2) ok I.b I.nl (by rw [List.getElem?_map,hn,Option.map_some,YY]) (by lia)
theorem Vj (ok:SysOk (SS w h0)) (I:Inv σ L ⟨some h,l,ex⟩) (H:h.nodes.length<=60) {i:Nat} {nd:Zp} (hn:h.nodes[i]?=some nd) (hk:nd.2.length<=4) :
    Fn (SS w h0) 1 (.ref 270) [.inst 306 (L .b),.int i] σ (λm σ'=>σ'=σ/\m=.tup (Za nd.2)):=by
  have hi:i<h.nodes.length:=(List.getElem?_eq_some_iff.mp hn).1;exact bank_kids (op:=.str nd.1) (kids:=Za nd.2) ok I.b I.nl (by rw [List.getElem?_map,hn,Option.map_some,YY]) (by lia) (by simp [Za];lia)
end
set_option tactic.hygienic false
section
variable {w:World} {h0:Heap}
variable {σ:MH} {L:Lay} {s:LS} {oh:Option HS} {ex:Nat->Option Zd}
theorem Qh {i:Nat}:(((i:Int)) != (-1:Int))=true:=by simp only [bne_iff_ne,ne_eq];lia
theorem bn_get (s:LS) (i:Nat):Yo (s.ls.map λp=>((Sum.inr (p.1:Int):Key),Zs p.2.under)) (.inr (i:Int))=(Zb s.ls i).map λx=>Zs x.under:=by
  rw [X0 (γ:=Nat)];unfold Zb;rw [Option.map_map];rfl
theorem want_ok (ok:SysOk (SS w h0)) (I:Inv σ L ⟨oh,some s,ex⟩) {o:Option Nat} (ho:isL s.ls o) :
    Fn (SS w h0) 1 (.ref 90) [.inst 190 (L .ly),Zs o] σ (λm σ'=>σ'=σ/\m=.none):=by
  refine' Fn.introK (k:=0) (ps:=["self","layer"]) ok ?h1 ?h2 ?h3 ?h4 ?h5 ?h6 ?h7 ?h8 ?h9 ?b ?h10 (ρ₀:=[("self",some (.inst 190 (L .ly))),("layer",some (Zs o))]) ?h11 ?h12
  case h1 | h3 | h4 | h5 | h6 | h7 | h8 | h9 | h11=>exact rfl
  case h2=>kernel_rfl
  case h10=>decide +kernel
  case b=>intro us h;obtain ⟨_,_,rfl⟩:=len2 h;exact rfl
  intro K_ hK_ F hF hFn;w_fin;cases o with
  | none=>
    refine Vh ⟨_,rfl,?_⟩;rw [if_neg (by simp),if_neg (by simp)];w_fin;exact ⟨rfl,rfl⟩
  | some i=>
    obtain ⟨x,hx⟩:=ho;refine Vh ⟨_,rfl,?_⟩;rw [if_pos Qh];w_fin;refine p_notinD ok (k:=.inr (i:Int)) rfl I.bn ⟨_,rfl,?_⟩;rw [bn_get,hx,if_neg (by simp),if_neg (by simp)];w_fin;exact ⟨rfl,rfl⟩
theorem KF (ok:SysOk (SS w h0)) (I:Inv σ L ⟨oh,some s,ex⟩) (K:LOk s) {o:Option Nat} (ho:isL s.ls o) :
    Fn (SS w h0) 2 (.ref 104) [.inst 190 (L .ly),Zs o] σ (λm σ'=>∃D,A3 (σ D=none) (m=.ref D) (σ'=σ.set D (.list (Za (ZU s.ls o))))):=by
  refine Fn.newA ?_;refine' Fn.introK (k:=1) (ps:=["self","layer"]) ok ?h1 ?h2 ?h3 ?h4 ?h5 ?h6 ?h7 ?h8 ?h9 ?b ?h10 (ρ₀:=[("self",some (.inst 190 (L .ly))),("layer",some (Zs o)),("found",none)]) ?h11 ?h12
  case h1 | h3 | h4 | h5 | h6 | h7 | h8 | h9 | h11=>exact rfl
  case h2=>kernel_rfl
  case h10=>decide +kernel
  case b=>intro us h;obtain ⟨_,_,rfl⟩:=len2 h;exact rfl
  intro K_ hK_ F hF hFn;w_left;w_left;ktf_call 1;refine Fn.useP (want_ok ok I ho) (by lia) ?_;refine ⟨rfl,?_⟩;w_fin;refine ⟨by simp,λa ha=>?_⟩;w_fin;refine Jk (λ(k:Nat) (ρ:Rho) (σ1:MH)=>E2 λ(cur:Option Nat) (rest:List Nat)=>A6 (σ1=σ.set a (.list (Za rest))) (ρ=([("self",some (.inst 190 (L .ly))),("layer",some (Zs cur)),("found",some (.ref a))]:Rho)) (isL s.ls cur) (k=rk cur) (ZU s.ls o=ZU s.ls cur++rest.reverse) (rest.length<=1000)) (rk o) ⟨o,[],rfl,rfl,ho,rfl,by simp,by simp⟩ ?_;rintro k Kc hKc ρ σ1 ⟨cur,rest,rfl,rfl,hc,rfl,hp,hz⟩;w_fin;cases cur with
  | none=>
    refine Vh ⟨_,rfl,?_⟩;refine ifN (by simp) ?_;w_fin;refine ⟨a,_,rfl,MH.set_same ..,by simp [Za];lia,λD hD=>unK hK_ ⟨D,Zx (Ext.set ha) hD,rfl,?_⟩⟩;have:(Za rest).reverse=Za (ZU s.ls o):=by rw [hp,YL];simp [Za]
    rw [this];exact (Ext.set ha).put D _
  | some i=>
    obtain ⟨x,hx⟩:=hc;refine Vh ⟨_,rfl,?_⟩;rw [if_pos Qh];w_fin;tb_from PySem.F.slot_list_append;refine Z5 (MH.set_same ..) (by simp [Za];lia) ⟨rfl,?_⟩;rw [XO];w_fin;refine Yc (k:=.inr (i:Int)) rfl (Inv.garb I ha).bn (by rw [bn_get,hx];rfl) ?_ (by exact rfl);w_fin;have e:=YO K hx;refine ⟨rk x.under,?_,x.under,rest++[i],by simp [Za,underV_0,underV_1],rfl,K.isU hx,rfl,by rw [hp,e];simp,?_⟩
    · cases q:x.under with
      | none=>simp [rk]
      | some j=>have:=(K.below hx q).1;simp [rk];lia
    · have h1:(ZU s.ls o).length<=1000:=by
        cases o with
        | none=>simp [YL]
        | some j=>
          obtain ⟨y,hy⟩:=ho;have:=path_len K j hy;have:=K.lt _ (ZP hy).1;have:=K.many;simp only at *;lia
      rw [hp,e] at h1;simp at h1 ⊢;lia
end
set_option tactic.hygienic false
section
variable {w:World} {h0:Heap}
variable {σ:MH} {L:Lay} {s:LS} {h:HS} {ex:Nat->Option Zd}
theorem wy_get (s:LS) (L:Lay) (i:Nat):Yo (s.ls.map λp=>((Sum.inr (p.1:Int):Key),V.ref (L (.way p.1)))) (.inr (i:Int))=(Zb s.ls i).map λ_=>.ref (L (.way i)):=by
  rw [X0 (γ:=Nat)];cases e:Zb s.ls i with
  | none=>unfold Zb at e;simp at e;simp;exact e
  | some x=>rw [(ZP e).2];rfl
theorem Z0 (ok:SysOk (SS w h0)) (I:Inv σ L ⟨some h,some s,ex⟩) (H:HOk h) (K:LOk s) {o:Option Nat} (ho:isL s.ls o) {a:Nat} (ha:a<h.nodes.length) :
    Fn (SS w h0) 3 (.ref 116) [.inst 190 (L .ly),Zs o,.int a] σ (λm σ'=>σ'=σ/\m=.int (fnd s.ls (root h.ab) o a)):=by
  refine Fn.obs ?_;refine' Fn.introK (k:=2) (ps:=["self","layer","n"]) ok ?h1 ?h2 ?h3 ?h4 ?h5 ?h6 ?h7 ?h8 ?h9 ?b ?h10 (ρ₀:=[("self",some (.inst 190 (L .ly))),("layer",some (Zs o)),("n",some (.int a)),("c",none),("one",none)]) ?h11 ?h12
  case h1 | h3 | h4 | h5 | h6 | h7 | h8 | h9 | h11=>exact rfl
  case h2=>kernel_rfl
  case h10=>decide +kernel
  case b=>intro us h;obtain ⟨_,_,_,rfl⟩:=len3 h;exact rfl
  intro K_ hK_ F hF hFn;w_fin;ktf_call 2;refine Fn.useP (Xg ok I H ha) (by lia) ?_;w_fin;refine Xq (λ_=>by exact rfl) (itL ?_);ktf_call 2;refine Fn.useN (KF ok I K ho) (by lia) ?_;intro D hD;refine ⟨_,_,rfl,MH.set_same ..,.inr ⟨rfl,rfl⟩,λits ρ σ1=>E3 λ(rest:List Nat) (c:Nat) (one:Option V)=>A5 (its=Za rest) (σ1=σ.set D (.list (Za (ZU s.ls o)))) (ρ=([("self",some (.inst 190 (L .ly))),("layer",some (Zs o)),("n",some (.int a)),("c",some (.int c)),("one",one)]:Rho)) ((∀i∈rest,∃x,Zb s.ls i=some x)) (Qo s.ls rest c=fnd s.ls (root h.ab) o a),⟨_,_,none,rfl,rfl,rfl,?_,rfl⟩,?_,?_,?_⟩
  · intro i hi;cases o with
    | none=>cases hi
    | some j=>obtain ⟨y,hy⟩:=ho;exact (X1 K j hy i hi).2
  · rintro its ρ σ1 ⟨rest,c,one,rfl,rfl,rfl,_⟩;exact MH.set_same ..
  · rintro x rest Kc hKc ρ σ1 ⟨l,c,one,e1,rfl,rfl,hl,hc⟩;cases l with
    | nil=>simp [Za] at e1
    | cons i l=>
      simp only [Za,List.map_cons,List.cons.injEq] at e1;obtain ⟨rfl,rfl⟩:=e1;obtain ⟨x,hx⟩:=hl i List.mem_cons_self;refine ZC (UpdR.tail<|UpdR.tail<|UpdR.tail<|UpdR.tail UpdR.head) (.inl hFn) ?_;w_fin;ktn_call QS Qi;refine Yc (k:=.inr (i:Int)) rfl (Inv.garb I hD).wy (by rw [wy_get,hx];rfl) ?_ (by exact rfl);w_fin;refine Fn.useP (V0 ok ((Inv.garb I hD).way hx) (K.ok _ (ZP hx).1)) (by decide) ?_;w_fin;refine ⟨l,fol x.ways c,_,rfl,rfl,rfl,λj hj=>hl j (List.mem_cons_of_mem _ hj),?_⟩;rw [<-hc];simp [Qo,Xf,hx]
  · rintro ρ σ1 ⟨l,c,one,e1,rfl,rfl,_,hc⟩;have:l=[]:=by cases l with
      | nil=>rfl
      | cons _ _=>simp [Za] at e1
    subst this;w_fin;refine ⟨Ext.set hD,?_⟩;rw [<-hc];rfl
theorem KM (ok:SysOk (SS w h0)) (I:Inv σ L ⟨some h,some s,ex⟩) (H:HOk h) (K:LOk s) {o:Option Nat} (ho:isL s.ls o) {a b:Nat} (ha:a<h.nodes.length) (hb:b<h.nodes.length) :
    Fn (SS w h0) 4 (.ref 123) [.inst 190 (L .ly),Zs o,.int a,.int b] σ (λm σ'=>σ'=σ/\m=.bool (decide (fnd s.ls (root h.ab) o a=fnd s.ls (root h.ab) o b))):=by
  refine' Fn.introK (k:=3) (ps:=["self","layer","a","b"]) ok ?h1 ?h2 ?h3 ?h4 ?h5 ?h6 ?h7 ?h8 ?h9 ?b ?h10 (ρ₀:=[("self",some (.inst 190 (L .ly))),("layer",some (Zs o)),("a",some (.int a)),("b",some (.int b))]) ?h11 ?h12
  case h1 | h3 | h4 | h5 | h6 | h7 | h8 | h9 | h11=>exact rfl
  case h2=>kernel_rfl
  case h10=>decide +kernel
  case b=>intro us h;obtain ⟨_,_,_,_,rfl⟩:=len4 h;exact rfl
  intro K_ hK_ F hF hFn;w_fin;ktf_call 3;refine Fn.useP (Z0 ok I H K ho ha) (by decide) ?_;ktf_call 3;refine Fn.useP (Z0 ok I H K ho hb) (by decide) ?_;refine V2 (unK hK_ ⟨rfl,?_⟩);rw [Ws];rfl
end
set_option tactic.hygienic false
section
variable {w:World} {h0:Heap}
variable {σ:MH} {L:Lay} {s:LS} {h:HS} {ex:Nat->Option Zd}
theorem U2 {ls:ZK} (hn:∀p∈ls,Zb ls p.1=some p.2) {i:Nat} {x:LI} (e:Zb ls i=some x):Yp ls i x.ways=ls:=by
  unfold Yp Xw;conv=>rhs;rw [<-List.map_id ls]
  apply List.map_congr_left;intro p hp;(set_option tactic.hygienic true in split)
  · rename_i q;have:=hn p hp;rw [q,e] at this;cases p;simp only [Option.some.injEq] at this;subst this;subst q;rfl
  · rfl
theorem Qr (a b:Nat):max (a:Int) (b:Int)=((max a b:Nat):Int):=by lia
theorem QK (a b:Nat):min (a:Int) (b:Int)=((min a b:Nat):Int):=by lia
theorem KE (ok:SysOk (SS w h0)) (I:Inv σ L ⟨some h,some s,ex⟩) (H:HOk h) (K:LOk s) {i:Nat} {x:LI} (hx:Zb s.ls i=some x) {f fb:NF} (hf:fnd s.ls (root h.ab) (some i)=f) (J:LJ fb x.ways f) {a b:Nat} (ha:a<h.nodes.length) (hb:b<h.nodes.length) (hws:x.ways.length+cnt h.nodes.length f<=1000) :
    Fn (SS w h0) 4 (.ref 130) [.inst 190 (L .ly),.int i,.int a,.int b] σ (λm σ'=>m=.bool (!decide (f a=f b))/\∃ws,A3 (Inv σ' L ⟨some h,some ⟨s.many,Yp s.ls i ws⟩,ex⟩) (LJ fb ws (lnk f a b)) (ws.length+cnt h.nodes.length (lnk f a b)<=x.ways.length+cnt h.nodes.length f)):=by
  have ho:isL s.ls (some i):=⟨x,hx⟩;refine' Fn.introK (k:=3) (ps:=["self","layer","a","b"]) ok ?h1 ?h2 ?h3 ?h4 ?h5 ?h6 ?h7 ?h8 ?h9 ?b ?h10 (ρ₀:=[("self",some (.inst 190 (L .ly))),("layer",some (.int i)),("a",some (.int a)),("b",some (.int b))]) ?h11 ?h12
  case h1 | h3 | h4 | h5 | h6 | h7 | h8 | h9 | h11=>exact rfl
  case h2=>kernel_rfl
  case h10=>decide +kernel
  case b=>intro us h;obtain ⟨_,_,_,_,rfl⟩:=len4 h;exact rfl
  intro K_ hK_ F hF hFn;w_fin;refine Jb (xs:=["a","b"]) hFn ?_ (by exact rfl) (by rw [Zy hF];exact rfl);w_fin;ktf_call 3;refine Fn.useP (Z0 ok I H K ho ha) (by decide) ?_;ktf_call 3;refine Fn.useP (Z0 ok I H K ho hb) (by decide) ?_;w_fin;rw [hf];refine ⟨by simp,_,_,rfl,rfl,⟨_,UpdR.tail (UpdR.tail (UpdR.tail UpdR.head)),_,UpdR.tail (UpdR.tail UpdR.head),rfl⟩,?_⟩;w_fin;refine Vh ⟨_,rfl,?_⟩;rw [Qy];by_cases e:f a=f b
  · refine ifN (by simp [e]) ?_;w_fin;refine Vh (unK hK_ ⟨by rw [Qy];rfl,x.ways,by rw [U2 K.get hx];exact I,by rw [J9 e];exact J,by rw [J9 e];lia⟩)
  · refine ifP (by simp [e]) ?_;w_fin;refine WN ?_ (by exact rfl);tbr_iter bt_min;refine p_min2 ?_;w_fin;refine Yc (k:=.inr (i:Int)) rfl I.wy (by rw [wy_get,hx];rfl) ?_ (by exact rfl);tbr_iter Uk;refine p_max2 ?_;have r1:ZY x.ways (max (f a) (f b))=none:=by
      rcases Nat.le_total (f a) (f b) with r | r
      · rw [Nat.max_eq_right r];exact J.root b
      · rw [Nat.max_eq_left r];exact J.root a
    refine X8 (k:=.inr (max (f a) (f b):Nat)) (by rw [Qr];rfl) (I.way hx) (by simp [XV];lia) ?_;rw [QK,wayEs_put r1];w_fin;refine Vh (unK hK_ ⟨by rw [Qy];rfl,_,I.setWay hx _,J.lnk e,by have:=WO J.rp ha hb e;simp;lia⟩)
end
set_option tactic.hygienic false
section
variable {w:World} {h0:Heap}
variable {σ:MH} {L:Lay} {s:LS} {h:HS} {ex:Nat->Option Zd}
theorem JF (ok:SysOk (SS w h0)) (I:Inv σ L ⟨some h,some s,ex⟩) (H:HOk h) (K:LOk s) {i:Nat} {x:LI} (hx:Zb s.ls i=some x) {f:NF} (hf:fnd s.ls (root h.ab) (some i)=f) (J:LJ (fnd s.ls (root h.ab) x.under) x.ways f) (hws:x.ways.length+cnt h.nodes.length f<=1000) (hex:ex 102=none) :
    Fn (SS w h0) 5 (.ref 135) [.inst 190 (L .ly),.int i] σ (λm σ'=>E3 λws f' t=>A8 (m=.bool t) (Inv σ' L ⟨some h,some ⟨s.many,Yp s.ls i ws⟩,ex⟩) (LJ (fnd s.ls (root h.ab) x.under) ws f') (ws.length+cnt h.nodes.length f'<=x.ways.length+cnt h.nodes.length f) ((∀g,Cl h.nodes g->Fi f g->Fi f' g)) (Fi f f') ((t=false->f'=f/\Cl h.nodes f)) ((t=true->cnt h.nodes.length f'<cnt h.nodes.length f))):=by
  refine' Fn.introK (k:=4) (ps:=["self","layer"]) ok ?h1 ?h2 ?h3 ?h4 ?h5 ?h6 ?h7 ?h8 ?h9 ?b ?h10 (ρ₀:=[("self",some (.inst 190 (L .ly))),("layer",some (.int i)),("known",none),("is_turned",none),("n",none),("node",none)]) ?h11 ?h12
  case h1 | h3 | h4 | h5 | h6 | h7 | h8 | h9 | h11=>exact rfl
  case h2=>kernel_rfl
  case h10=>decide +kernel
  case b=>intro us h;obtain ⟨_,_,rfl⟩:=len2 h;exact rfl
  intro K_ hK_ F hF hFn;w_fin;refine Jb (xs:=["known","is_turned"]) hFn ?_ (by exact rfl) (by rw [Zy hF];exact rfl);w_fin;refine UO (λD hD=>?_);w_fin;refine ⟨by simp,_,_,rfl,rfl,⟨_,UpdR.tail (UpdR.tail (UpdR.tail UpdR.head)),_,UpdR.tail (UpdR.tail UpdR.head),rfl⟩,?_⟩;obtain ⟨L2,I2,eD,eL,back⟩:=I.openX hD 102 hex (.tdict []);rw [<-eL .ly (gne rfl)];subst eD;generalize σ.set (L2 (.x 102)) (.tdict [])=σ1 at I2 ⊢;have hn60:=H.small;w_fin;refine Xq (λ_=>by exact rfl) (itR ?_);tbr_iter YK;ktf_call 2;refine Fn.useP (Vp ok I2 H) (by decide) ?_;w_fin;refine Y2 ⟨_,rfl,by lia,.inr ⟨rfl,rfl⟩,λits ρ σ1=>E7 λk ws f1 kn t o1 o2=>A7 (its=Za (List.range' k (h.nodes.length-k))) (k<=h.nodes.length) (ρ=([("self",some (.inst 190 (L2 .ly))),("layer",some (.int i)),("known",some (.ref (L2 (.x 102)))),("is_turned",some (.bool t)),("n",o1),("node",o2)]:Rho)) (Inv σ1 L2 ⟨some h,some ⟨s.many,Yp s.ls i ws⟩,exS ex 102 (some (.tdict (Yu kn)))⟩) (LJ (fnd s.ls (root h.ab) x.under) ws f1) (ws.length+cnt h.nodes.length f1<=x.ways.length+cnt h.nodes.length f) (CO h.nodes f k f1 kn t),
    ⟨0,x.ways,f,[],false,_,_,XU _,by lia,rfl,by rw [U2 K.get hx];exact I2,J,by lia,CO.start J.rp⟩,λ_ _ _ _=>trivial,?_,?_⟩
  · rintro v rest Kc hKc ρ σ2 ⟨k,ws,f1,kn,t,o1,o2,e1,hk,rfl,I3,J3,hb3,C3⟩;obtain ⟨hkn,rfl,rfl⟩:=XC e1.symm;obtain ⟨K3,hx3,hu3,hf3⟩:=X7 K hx J3;obtain ⟨nd,hnd⟩:∃nd,h.nodes[k]?=some nd:=⟨_,List.getElem?_eq_getElem hkn⟩;obtain ⟨hk4,hkids⟩:=H.kids k nd hnd;refine ZC (UpdR.tail<|UpdR.tail<|UpdR.tail<|UpdR.tail UpdR.head) (.inl hFn) ?_;ktf_call 1;refine Fn.useP (Q3 ok I3 H.small hnd) (by decide) ?_;w_fin;refine ⟨by simp,?_⟩;tbr_iter XE;refine Jc (λo=>[(".0",none),("kid",o),("layer",some (.int i)),("self",some (.inst 190 (L2 .ly)))]) (λ_=>by exact rfl) hF (by exact rfl) rfl (by exact rfl) (λ_ _=>UpdR.tail UpdR.head) (λFc h=>by show Fc.env.scope.names.lookup _=_;rw [h];exact rfl) (itT ?_);ktf_call 1;refine Fn.useP (Vj ok I3 H.small hnd hk4) (by decide) ?_;refine ⟨_,rfl,rfl,by simp [Za];lia,λ_ _=>trivial,Xo f1,?_,λa ha=>?_⟩
    · intro Fc hFc hFn' v hv σ2 e;obtain ⟨kk,hkk,rfl⟩:=Yi hv;have I4:=Own.ext I3 e;ktf_call 3;refine Fn.useP (Z0 ok I4 H K3 (o:=some i) ⟨_,hx3⟩ (hkids kk hkk)) (by decide) ?_;exact ⟨rfl,by rw [hf3];simp [XH]⟩
    rw [Yv];w_fin;refine X9 (MH.set_same ..) (by simp [Za];lia) ?_;refine X4 (by simp [Za];lia) ?_;refine ⟨_,UpdR.tail<|UpdR.tail<|UpdR.tail<|UpdR.tail<|UpdR.tail UpdR.head,?_⟩;w_left;refine WS.drop (Ext.set ha) ?_;have key:∀(o:Nat) (kn':List (Zp×Nat)) (σ4:MH),((Xm kn (nd.1,nd.2.map f1)=some o/\kn'=kn)\/(Xm kn (nd.1,nd.2.map f1)=none/\o=k/\kn'=kn++[((nd.1,nd.2.map f1),k)]))->
        Inv σ4 L2 ⟨some h,some ⟨s.many,Yp s.ls i ws⟩,exS ex 102 (some (.tdict (Yu kn')))⟩->
        Fn (SS w h0) 4 (.ref 130) [.inst 190 (L2 .ly),.int i,.int o,.int k] σ4 (λm σ2=>E3 λb ws' f2=>A5 (m=.bool b) (Inv σ2 L2 ⟨some h,some ⟨s.many,Yp s.ls i ws'⟩,exS ex 102 (some (.tdict (Yu kn')))⟩) (LJ (fnd s.ls (root h.ab) x.under) ws' f2) (ws'.length+cnt h.nodes.length f2<=x.ways.length+cnt h.nodes.length f) (CO h.nodes f (k+1) f2 kn' (t||b))):=by
      intro o kn' σ4 hc I4;obtain ⟨ho,C4⟩:=C3.step hnd hc;refine Fn.useV (KE ok I4 H K3 hx3 hf3 J3 ho hkn (by simp only;lia)) (by decide) ?_;rintro σ5 ⟨ws',I5,J5,hb5⟩;rw [Kt] at I5;exact ⟨_,ws',_,rfl,I5,J5,by simp only at hb5;lia,C4⟩
    have hlen:=C3.len;w_left;refine sIf (Xu ?_ (by exact rfl));ktf_call 4;tb_from PySem.F.slot_dict_setdefault;refine JL ok (k:=Zz (nd.1,nd.2.map f1)) (by simp [Zz,Za,V.ofKey]) I3.x' (by simp [Yu];lia) (λu hu=>?_) (λhu=>?_)
    · rw [Ji] at hu;obtain ⟨o,ho,rfl⟩:=Option.map_eq_some_iff.mp hu;w_fin;refine Fn.mono (key o kn σ2 (.inl ⟨ho,rfl⟩) I3) (by decide) ?_;rintro m σ5 ⟨b,ws',f2,rfl,I5,J5,hb5,C5⟩;refine ⟨b,rfl,?_⟩;cases b with
      | true=>
        refine ifP rfl ?_;w_fin;rw [Bool.or_true] at C5;exact ⟨k+1,ws',f2,kn,true,_,_,rfl,by lia,rfl,I5,J5,hb5,C5⟩
      | false=>
        refine ifN (by simp) ?_;w_fin;rw [Bool.or_false] at C5;exact ⟨k+1,ws',f2,kn,t,_,_,rfl,by lia,rfl,I5,J5,hb5,C5⟩
    · rw [Ji] at hu;have hg:Xm kn (nd.1,nd.2.map f1)=none:=by simpa using hu
      have I4:=I3.setX (.tdict (Yu kn++[(Zz (nd.1,nd.2.map f1),.int k)])) (Zr ..);rw [UZ] at I4;generalize σ2.set (L2 (.x 102)) (.tdict (Yu kn++[(Zz (nd.1,nd.2.map f1),.int k)]))=σ4 at I4 ⊢;have e4:Yu kn++[(Zz (nd.1,nd.2.map f1),V.int k)]=Yu (kn++[((nd.1,nd.2.map f1),k)]):=by simp [Yu]
      rw [e4] at I4;w_fin;refine Fn.mono (key k _ σ4 (.inr ⟨hg,rfl,rfl⟩) I4) (by decide) ?_;rintro m σ5 ⟨b,ws',f2,rfl,I5,J5,hb5,C5⟩;refine ⟨b,rfl,?_⟩;cases b with
      | true=>
        refine ifP rfl ?_;w_fin;rw [Bool.or_true] at C5;exact ⟨k+1,ws',f2,_,true,_,_,rfl,by lia,rfl,I5,J5,hb5,C5⟩
      | false=>
        refine ifN (by simp) ?_;w_fin;rw [Bool.or_false] at C5;exact ⟨k+1,ws',f2,_,t,_,_,rfl,by lia,rfl,I5,J5,hb5,C5⟩
  · rintro ρ σ2 ⟨k,ws,f1,kn,t,o1,o2,e1,hk,rfl,I3,J3,hb3,C3⟩;have:k=h.nodes.length:=by have:=VK e1.symm;lia
    subst this;w_fin;exact ⟨ws,f1,t,rfl,back _ _ _ _ I3,J3,hb3,C3.le,C3.co,C3.fin,C3.tt⟩
end
set_option tactic.hygienic false
section
variable {w:World} {h0:Heap}
variable {σ:MH} {L:Lay} {s:LS} {h:HS} {ex:Nat->Option Zd}
theorem td_get (s:LS) (L:Lay) (i:Nat):Yo (s.ls.map λp=>((Sum.inr (p.1:Int):Key),V.ref (L (.tdl p.1)))) (.inr (i:Int))=(Zb s.ls i).map λ_=>.ref (L (.tdl i)):=by
  rw [X0 (γ:=Nat)];cases e:Zb s.ls i with
  | none=>unfold Zb at e;simp at e;simp;exact e
  | some x=>rw [(ZP e).2];rfl
theorem cnt_bd (n:Nat) (f:NF):cnt n f<=n:=by
  unfold cnt;have:=List.length_filter_le (λx=>decide (f x=x)) (List.range n);simpa using this
theorem JD (ok:SysOk (SS w h0)) (I:Inv σ L ⟨some h,some s,ex⟩) (H:HOk h) (K:LOk s) {i:Nat} {x:LI} (hx:Zb s.ls i=some x) {P:List (Nat×Nat)} (hP:Lst h.nodes P (fnd s.ls (root h.ab) x.under))
    (ht:∀p∈x.told,p.1<h.nodes.length/\p.2<h.nodes.length) (hex:ex 102=none) :
    Fn (SS w h0) 6 (.ref 142) [.inst 190 (L .ly),.int i] σ (λm σ'=>m=.none/\E3 λL' ws f'=>A4 (Inv σ' L' ⟨some h,some ⟨s.many,Yp s.ls i ws⟩,ex⟩) (Z4 ⟨some h,some s,ex⟩ L L') (LJ (fnd s.ls (root h.ab) x.under) ws f') (Lst h.nodes (P++x.told) f')):=by
  have hn60:=H.small;refine' Fn.introK (k:=5) (ps:=["self","layer"]) ok ?h1 ?h2 ?h3 ?h4 ?h5 ?h6 ?h7 ?h8 ?h9 ?b ?h10 (ρ₀:=[("self",some (.inst 190 (L .ly))),("layer",some (.int i)),("a",none),("b",none)]) ?h11 ?h12
  case h1 | h3 | h4 | h5 | h6 | h7 | h8 | h9 | h11=>exact rfl
  case h2=>kernel_rfl
  case h10=>decide +kernel
  case b=>intro us h;obtain ⟨_,_,rfl⟩:=len2 h;exact rfl
  intro K_ hK_ F hF hFn;w_fin;refine WN ?_ (by exact rfl);refine UD (λD hD=>?_);w_fin;refine X8 (k:=.inr (i:Int)) rfl (Inv.garb I hD).wy (by have:=K.small;simp;lia) ?_;obtain ⟨L1,I1,e1⟩:∃L1:Lay,Inv ((σ.set D (.dict [])).set (L .wy) (.dict (YU (s.ls.map λp=>((Sum.inr (p.1:Int):Key),V.ref (L (.way p.1)))) (.inr (i:Int)) (.ref D)))) L1 ⟨some h,some ⟨s.many,Yp s.ls i []⟩,ex⟩/\∀g,g≠.way i->L1 g=L g:=
    ⟨_,I.newWay hx hD,λg hg=>Zk hg⟩
  have fix:Z4 ⟨some h,some s,ex⟩ L L1:=λg hg _=>e1 g (λe=>by subst e;cases hg);rw [<-e1 .ly (gne rfl)];generalize (σ.set D (.dict [])).set (L .wy) (.dict (YU (s.ls.map λp=>((Sum.inr (p.1:Int):Key),V.ref (L (.way p.1)))) (.inr (i:Int)) (.ref D)))=σ1 at I1 ⊢;generalize hfb:fnd s.ls (root h.ab) x.under=fb at hP hK_ ⊢;have back:∀{ws f1},LJ fb ws f1->LOk ⟨s.many,Yp s.ls i ws⟩/\Zb (Yp s.ls i ws) i=some { x with ways:=ws }/\fnd (Yp s.ls i ws) (root h.ab) x.under=fb/\fnd (Yp s.ls i ws) (root h.ab) (some i)=f1:=λJ=>by
    subst hfb;exact X7 K hx J
  have J0:=LJ.nil hP.rp;have hx1:=(back J0).2.1;w_fin;refine Xq (λ_=>by exact rfl) (itL ?_);w_fin;refine Yc (k:=.inr (i:Int)) rfl I1.td (by rw [td_get];simp only;rw [hx1];rfl) ?_ (by exact rfl);refine ⟨_,_,rfl,I1.tdl hx1,.inl rfl,λits ρ σ2=>E6 λpre rest ws f1 o1 o2=>A9 (x.told=pre++rest) (its=rest.map Zh) (ρ=([("self",some (.inst 190 (L1 .ly))),("layer",some (.int i)),("a",o1),("b",o2)]:Rho)) (Inv σ2 L1 ⟨some h,some ⟨s.many,Yp s.ls i ws⟩,ex⟩) (LJ fb ws f1) (ws.length+cnt h.nodes.length f1<=cnt h.nodes.length fb) (Fo h.nodes (P++x.told) f1) (Fi fb f1) (Re pre f1),
    ⟨[],x.told,[],fb,_,_,rfl,rfl,rfl,I1,J0,by simp,hP.fo.mono (λp hp=>List.mem_append_left _ hp),hP.rp.2,λ_ _ q=>absurd q List.not_mem_nil⟩,?_,?_,?_⟩
  · rintro its ρ σ2 ⟨pre,rest,ws,f1,o1,o2,_,_,_,I2,J2,_⟩;have:=I2.tdl (back J2).2.1;exact this
  · rintro v its Kc hKc ρ σ2 ⟨pre,rest,ws,f1,o1,o2,hp,e2,rfl,I2,J2,b2,F2,C2,R2⟩;cases rest with
    | nil=>simp at e2
    | cons p rest=>
      simp only [List.map_cons,List.cons.injEq] at e2;obtain ⟨rfl,rfl⟩:=e2;obtain ⟨pa,pb⟩:=p;have hm:(pa,pb)∈x.told:=by rw [hp];simp
      obtain ⟨ha,hb⟩:pa<h.nodes.length/\pb<h.nodes.length:=ht _ hm;obtain ⟨K2,hx2,hu2,hf2⟩:=back J2;refine WJ (by exact rfl) (by exact rfl) ZW trivial ?_;refine ZC (UpdR.tail<|UpdR.tail UpdR.head) (.inl hFn) ?_;refine ZC (UpdR.tail<|UpdR.tail<|UpdR.tail UpdR.head) (.inl hFn) ?_;show WS _ _ _ _ _ _ _ _;have:=cnt_bd h.nodes.length fb;ktf_call 4;refine Fn.useV (KE (a:=pa) (b:=pb) ok I2 H K2 hx2 hf2 J2 ha hb (by simp only;lia)) (by decide) ?_;rintro σ3 ⟨ws',I3,J3,b3⟩;rw [Kt] at I3;refine ⟨rfl,?_⟩;w_fin;have F3:Fo h.nodes (P++x.told) (lnk f1 pa pb):=F2.lnk λg _ r _=>r pa pb (List.mem_append_right _ hm);refine ⟨pre++[(pa,pb)],rest,ws',_,_,_,by rw [hp];simp,rfl,rfl,I3,J3,by simp only at b3;lia,F3,C2.trans (Jz J2.rp pa pb),?_⟩;intro a b hab;rcases List.mem_append.mp hab with q | q
      · exact R2.co (Jz J2.rp pa pb) a b q
      · simp only [List.mem_singleton,Prod.mk.injEq] at q;obtain ⟨rfl,rfl⟩:=q;exact UJ _ _
  · rintro ρ σ2 ⟨pre,rest,ws,f1,o1,o2,hp,e2,rfl,I2,J2,b2,F2,C2,R2⟩;have:rest=[]:=by cases rest with
      | nil=>rfl
      | cons _ _=>simp at e2
    subst this;rw [List.append_nil] at hp;subst hp;w_fin;refine Jk (λ(k:Nat) (ρ:Rho) (σ3:MH)=>E2 λws f1=>A8 (ρ=([("self",some (.inst 190 (L1 .ly))),("layer",some (.int i)),("a",o1),("b",o2)]:Rho)) (Inv σ3 L1 ⟨some h,some ⟨s.many,Yp s.ls i ws⟩,ex⟩) (LJ fb ws f1) (ws.length+cnt h.nodes.length f1<=cnt h.nodes.length fb) (Fo h.nodes (P++x.told) f1) (Fi fb f1) (Re x.told f1) (k=cnt h.nodes.length f1)) _ ⟨ws,f1,rfl,I2,J2,b2,F2,C2,R2,rfl⟩ ?_;rintro k Kc hKc ρ σ3 ⟨ws,f1,rfl,I3,J3,b3,F3,C3,R3,rfl⟩;obtain ⟨K3,hx3,hu3,hf3⟩:=back J3;have:=cnt_bd h.nodes.length fb;refine Xu ?_ (by exact rfl);ktf_call 5;have J3':=J3;rw [<-hu3] at J3';refine Fn.mono (JF ok I3 H K3 hx3 hf3 J3' (by simp only;lia) hex) (by decide) ?_;rintro m σ4 ⟨ws',f2,t,rfl,I4,J4,b4,le4,co4,no4,yes4⟩;rw [Kt] at I4;simp only at I4 J4 b4;rw [hu3] at J4;have F4:Fo h.nodes (P++x.told) f2:=⟨J4.rp,λg c r=>le4 g c (F3.le g c r)⟩;have C4:=C3.trans co4;have R4:=R3.co co4;refine ⟨t,rfl,?_⟩;cases t with
    | true=>
      refine ifP rfl ?_;w_fin;exact ⟨_,yes4 rfl,ws',f2,rfl,I4,J4,by lia,F4,C4,R4,rfl⟩
    | false=>
      refine ifN (by simp) ?_;w_fin;obtain ⟨rfl,cl⟩:=no4 rfl;refine ⟨rfl,L1,ws',f2,I4,fix,J4,F4.lst cl ?_⟩;intro a b hab;rcases List.mem_append.mp hab with q | q
      · exact (hP.re.co C4) a b q
      · exact R4 a b q
end
set_option tactic.hygienic false
section
variable {w:World} {h0:Heap}
variable {σ:MH} {L:Lay} {s:LS} {h:HS} {ex:Nat->Option Zd}
theorem VU (ok:SysOk (SS w h0)) (I:Inv σ L ⟨some h,some s,ex⟩) (K:LOk s) {ns:List Zp} {P:List (Nat×Nat)} {R:HS->Prop} (hR:∀h1,R h1->HOk h1/\h1.nodes=ns/\Lst ns P (root h1.ab))
    (ht:∀i x,Zb s.ls i=some x->∀q∈x.told,q.1<ns.length/\q.2<ns.length) (h100:ex 100=none) (h102:ex 102=none)
    (hs:Fn (SS w h0) 7 (.ref 470) [.inst 520 (L .d)] σ (λm σ'=>m=.none/\E2 λL1 h1=>A3 (Inv σ' L1 ⟨some h1,some s,ex⟩) (Z4 ⟨some h,some s,ex⟩ L L1) (R h1))) :
    Fn (SS w h0) 8 (.ref 149) [.inst 190 (L .ly)] σ (λm σ'=>m=.none/\E3 λL' h1 ls'=>A6 (Inv σ' L' ⟨some h1,some ⟨s.many,ls'⟩,ex⟩) (Z4 ⟨some h,some s,ex⟩ L L') (R h1) (ZE ls'=ZE s.ls) (LOk ⟨s.many,ls'⟩) (LV ns P (root h1.ab) ls' Xi)):=by
  refine' Fn.introK (k:=7) (ps:=["self"]) ok ?h1 ?h2 ?h3 ?h4 ?h5 ?h6 ?h7 ?h8 ?h9 ?b ?h10 (ρ₀:=[("self",some (.inst 190 (L .ly))),("layer",none)]) ?h11 ?h12
  case h1 | h3 | h4 | h5 | h6 | h7 | h8 | h9 | h11=>exact rfl
  case h2=>kernel_rfl
  case h10=>decide +kernel
  case b=>intro us h;obtain ⟨_,rfl⟩:=len1 h;exact rfl
  intro K_ hK_ F hF hFn;ktf_call 7;refine Fn.mono hs (by decide) ?_;rintro m σ1 ⟨rfl,L1,h1,I1,fix1,r1⟩;obtain ⟨H1,rfl,v1⟩:=hR h1 r1;refine ⟨rfl,?_⟩;have ely:L1 .ly=L .ly:=fix1 .ly rfl snn;rw [<-ely];w_fin;refine Xq (λ_=>by exact rfl) (itL ?_);tbr_iter XA;have casc:=K.asc;refine V4 ok (is:=(s.ls.map Prod.fst).map λ(i:Nat)=>(i:Int)) I1.bn (by simp [List.map_map,Function.comp_def]) (by have:=K.small;simp;lia) ?_;intro D js hD hp hsd;obtain rfl:=JY hp hsd (Qv casc);generalize hks:s.ls.map Prod.fst=ks at casc;have e0:(List.map (λ(i:Nat)=>(i:Int)) ks).map V.int=Za ks:=by simp [Za,List.map_map,Function.comp_def]
  rw [e0];have hall:∀j y,Zb s.ls j=some y->j∈ks:=λj y hy=>by rw [<-hks];exact List.mem_map_of_mem (ZP hy).1
  have hget:∀j∈ks,∃y,Zb s.ls j=some y:=λj hj=>by
    rw [<-hks] at hj;obtain ⟨p,hp,rfl⟩:=List.mem_map.mp hj;exact ⟨_,K.get p hp⟩
  have I2:=I1.newX hD 100 (.list (Za ks));have fix2:Z4 ⟨some h1,some s,ex⟩ L1 (upd L1 (.x 100) D):=Z4.newX h100;refine ⟨D,_,rfl,MH.set_same ..,.inr ⟨rfl,rfl⟩,λits ρ σ2=>E5 λpre rest L2 ls2 o=>A9 (ks=pre++rest) (its=Za rest) (ρ=([("self",some (.inst 190 (L1 .ly))),("layer",o)]:Rho)) (Inv σ2 L2 ⟨some h1,some ⟨s.many,ls2⟩,exS ex 100 (some (.list (Za ks)))⟩) (L2 (.x 100)=D) (Z4 ⟨some h1,some s,ex⟩ L1 L2) (ZE ls2=ZE s.ls) (LOk ⟨s.many,ls2⟩) (LV h1.nodes P (root h1.ab) ls2 (·∈rest)),
    ⟨[],ks,_,s.ls,none,rfl,rfl,rfl,I2,Zn ..,fix2,rfl,K,v1,λi x hx hb=>absurd (hall i x hx) hb⟩,?_,?_,?_⟩
  · rintro its ρ σ2 ⟨pre,rest,L2,ls2,o,_,_,_,I3,e3,_⟩;rw [<-e3];exact I3.x'
  · rintro v its Kc hKc ρ σ2 ⟨pre,rest,L2,ls2,o,hk,e2,rfl,I3,e3,fix3,co3,K3,V3⟩;cases rest with
    | nil=>simp [Za] at e2
    | cons i rest=>
      simp only [Za,List.map_cons,List.cons.injEq] at e2;obtain ⟨rfl,rfl⟩:=e2;obtain ⟨y,hy⟩:=hget i (by rw [hk];simp);obtain ⟨x,hx,hu,htold⟩:=Y7 co3.symm hy;have asc3:(i::rest).Pairwise (· < ·):=by rw [hk] at casc;exact (List.pairwise_append.mp casc).2.1
      have pre3:∀j∈pre,j<i:=by rw [hk] at casc;exact λj hj=>(List.pairwise_append.mp casc).2.2 j hj i List.mem_cons_self
      have U3:=V3.under K3 hx asc3;refine ZC (UpdR.tail UpdR.head) (.inl hFn) ?_;have ely2:L2 .ly=L1 .ly:=fix3 .ly rfl snn;rw [<-ely2];ktf_call 6;refine Fn.useV (JD ok I3 H1 K3 hx U3 (by rw [htold];exact ht i y hy) (by rw [Zj (by simp)];exact h102)) (by decide) ?_;rintro σ3 ⟨L4,ws,f',I4,YW,J4,R4⟩;refine ⟨rfl,?_⟩;w_fin;obtain ⟨K4,hx4,_⟩:=X7 K3 hx J4;have fix4':Z4 ⟨some h1,some s,ex⟩ L1 L4:=fix3.then YW live_x
      refine ⟨pre++[i],rest,L4,_,_,by rw [hk];simp,rfl,by rw [ely2],I4,by rw [<-e3];exact YW.x',fix4',by rw [Jj];exact co3,K4,V3.step K3 hx ?_ J4 R4⟩;intro j z hz hm;obtain ⟨z0,hz0,_⟩:=Y7 co3 hz;have hj:=hall j z0 hz0;rw [hk] at hj;have hij:=(X1 K3 j hz i hm).1;rcases List.mem_append.mp hj with q | q
      · have:=pre3 j q;lia
      · exact (List.mem_cons.mp q)
  · rintro ρ σ2 ⟨pre,rest,L2,ls2,o,hk,e2,rfl,I3,e3,fix3,co3,K3,V3⟩;have:rest=[]:=by cases rest with
      | nil=>rfl
      | cons _ _=>simp [Za] at e2
    subst this;w_fin;have I4:=I3.dropX 100;rw [Qf h100] at I4;refine ⟨rfl,L2,h1,ls2,I4,fix1.then fix3 live_s,r1,co3,K3,V3.base,λi x hx _=>V3.each i x hx (by simp)⟩
end
set_option tactic.hygienic false
section
variable {w:World} {h0:Heap}
variable {σ:MH} {L:Lay} {s:LS} {oh:Option HS} {ex:Nat->Option Zd}
theorem Qe (ok:SysOk (SS w h0)) (I:Inv σ L ⟨oh,some s,ex⟩) (K:LOk s) {i:Nat} :
    Fn (SS w h0) 3 (.ref 109) [.inst 190 (L .ly),.int i] σ (λm σ'=>∃D,A3 (σ D=none) (m=.ref D) (σ'=σ.set D (.list (Za (YM s i))))):=by
  refine Fn.newA ?_;refine' Fn.introK (k:=2) (ps:=["self","layer"]) ok ?h1 ?h2 ?h3 ?h4 ?h5 ?h6 ?h7 ?h8 ?h9 ?b ?h10 (ρ₀:=[("self",some (.inst 190 (L .ly))),("layer",some (.int i))]) ?h11 ?h12
  case h1 | h3 | h4 | h5 | h6 | h7 | h8 | h9 | h11=>exact rfl
  case h2=>kernel_rfl
  case h10=>decide +kernel
  case b=>intro us h;obtain ⟨_,_,rfl⟩:=len2 h;exact rfl
  intro K_ hK_ F hF hFn;w_left;w_left;refine WC (λo=>[(".0",none),("one",o),("layer",some (.int i)),("self",some (.inst 190 (L .ly)))]) (λ_=>by exact rfl) hF (by exact rfl) rfl (by exact rfl) (λ_ _=>UpdR.tail UpdR.head) (λFc h=>by show Fc.env.scope.names.lookup _=_;rw [h];exact rfl) (itL ?_);tbr_iter XA;refine V4 ok (is:=(s.ls.map Prod.fst).map λ(i:Nat)=>(i:Int)) I.bn (by simp [List.map_map,Function.comp_def]) (by have:=K.small;simp;lia) ?_;intro D js hD hp hsd;obtain rfl:=JY hp hsd (Qv K.asc);have e0:(List.map (λ(i:Nat)=>(i:Int)) (s.ls.map Prod.fst)).map V.int=Za (s.ls.map Prod.fst):=by simp [Za,List.map_map,Function.comp_def]
  rw [e0];refine ⟨D,_,rfl,MH.set_same ..,rfl,by have:=K.small;simp [Za];lia,λσ2 e=>e _ _ (MH.set_same ..),λv=>match v with | .int j=>decide (i∈ZU s.ls (some j.toNat)) | _=>false,id,?_,?_,λa ha=>unK hK_ ⟨a,Zx (Ext.set hD) ha,rfl,?_⟩⟩
  · intro Fc hFc hFn' v hv σ2 e;obtain ⟨j,hj,rfl⟩:=Yi hv;obtain ⟨p,hp',rfl⟩:=List.mem_map.mp hj;have hget:=K.get p hp';have I2:=Own.ext I ((Ext.set hD).trans e);refine WB.conseq (Q':=λb σ'=>Ext σ2 σ'/\b=decide (i∈ZU s.ls (some p.1))) ?_ (λb σ' ⟨e,h⟩=>⟨σ2,e,rfl,by simpa using h⟩);w_left;w_fin;refine V2 ⟨_,rfl,?_⟩;refine ifN (by simp only [beq_iff_eq];lia) ?_;w_left;w_fin;ktf_call 2;refine Fn.useN (KF ok I2 K (o:=some p.1) ⟨_,hget⟩) (by decide) ?_;intro D2 hD2;have e2:Za (ZU s.ls (some p.1))=((ZU s.ls (some p.1)).map λ(k:Nat)=>Dt.one (.inr (k:Int))).map Dt.v:=by rw [List.map_map];rfl
    refine p_inl (d:=.one (.inr (i:Int))) rfl ?_ (MH.set_same ..) e2 ⟨_,rfl,?_⟩
    · simp [List.all_map,Dt.ok,kOk,Function.comp_def]
    · have e3:decide (Dt.one (.inr (i:Int))∈(ZU s.ls (some p.1)).map λ(k:Nat)=>Dt.one (.inr (k:Int)))=decide (i∈ZU s.ls (some p.1)):=by
        rw [decide_eq_decide];simp only [List.mem_map,Dt.one.injEq,Sum.inr.injEq];exact ⟨λ⟨a,ha,h⟩=>by have:a=i:=(by lia);exact this▸ha,λh=>⟨i,h,rfl⟩⟩
      rw [e3];by_cases q:i∈ZU s.ls (some p.1)
      · rw [if_pos (by simp [q])];exact ⟨Ext.set hD2,by simp [q]⟩
      · refine ifN (by simp [q]) ?_;refine tOr0 ⟨Ext.set hD2,by simp [q]⟩
  · intro Fc hFc hFn' v hv _ σ2 e;w_fin;exact ⟨rfl,rfl⟩
  · have e4:((Za (s.ls.map Prod.fst)).filter λv=>match v with | .int j=>decide (i∈ZU s.ls (some j.toNat)) | _=>false).map id=Za (YM s i):=by
      unfold Za YM;rw [List.map_id,List.filter_map];rfl
    rw [e4];exact (Ext.set hD).put a _
end
set_option tactic.hygienic false
section
variable {w:World} {h0:Heap}
variable {σ:MH} {L:Lay} {s:LS} {h:HS} {ex:Nat->Option Zd}
theorem JU (ok:SysOk (SS w h0)) (I:Inv σ L ⟨some h,some s,ex⟩) (H:HOk h) (K:LOk s) {i:Nat} {x:LI} (hx:Zb s.ls i=some x) {P:List (Nat×Nat)} (V:LV h.nodes P (root h.ab) s.ls Xi)
    (ht:∀i x,Zb s.ls i=some x->∀q∈x.told,q.1<h.nodes.length/\q.2<h.nodes.length) (hz:x.told.length<=1000) (h100:ex 100=none) (h102:ex 102=none) {a b:Nat} (ha:a<h.nodes.length) (hb:b<h.nodes.length) :
    Fn (SS w h0) 8 (.ref 156) [.inst 190 (L .ly),.int i,.int a,.int b] σ (λm σ'=>m=.bool (!decide (fnd s.ls (root h.ab) (some i) a=fnd s.ls (root h.ab) (some i) b))/\E2 λL' ls'=>A5 (Inv σ' L' ⟨some h,some ⟨s.many,ls'⟩,ex⟩) (Z4 ⟨some h,some s,ex⟩ L L') (ZE ls'=ZE (Xl s.ls i (a,b))) (LOk ⟨s.many,ls'⟩) (LV h.nodes P (root h.ab) ls' Xi)):=by
  refine' Fn.introK (k:=7) (ps:=["self","layer","a","b"]) ok ?h1 ?h2 ?h3 ?h4 ?h5 ?h6 ?h7 ?h8 ?h9 ?b ?h10 (ρ₀:=[("self",some (.inst 190 (L .ly))),("layer",some (.int i)),("a",some (.int a)),("b",some (.int b)),("is_new",none),("one",none)]) ?h11 ?h12
  case h1 | h3 | h4 | h5 | h6 | h7 | h8 | h9 | h11=>exact rfl
  case h2=>kernel_rfl
  case h10=>decide +kernel
  case b=>intro us h;obtain ⟨_,_,_,_,rfl⟩:=len4 h;exact rfl
  intro K_ hK_ F hF hFn;w_fin;refine V2 ⟨_,rfl,?_⟩;refine ifN (by simp only [beq_iff_eq];lia) ?_;w_fin;ktf_call 4;refine Fn.useP (KM ok I H K (o:=some i) ⟨x,hx⟩ ha hb) (by decide) ?_;refine ⟨_,rfl,?_⟩;w_fin;refine fMList PySem.F.slot_list_append (by exact rfl) (by exact rfl) ?_ (by exact rfl);w_fin;refine Yc (k:=.inr (i:Int)) rfl I.td (by rw [td_get,hx];rfl) ?_ (by exact rfl);refine ⟨_,_,rfl,I.tdl hx,?_⟩;w_fin;refine ⟨by simp,?_⟩;w_fin;refine Z5 (I.tdl hx) (by simp;lia) ⟨rfl,?_⟩;have I1:=I.addTold hx (a,b);have K1:=addT_ok K i (a,b);w_left;show WS _ _ _ _ _ (σ.set (L (.tdl i)) (.list (x.told.map Zh++[Zh (a,b)]))) _ _;generalize σ.set (L (.tdl i)) (.list (x.told.map Zh++[Zh (a,b)]))=σ1 at I1 ⊢;w_fin;refine Xq (λ_=>by exact rfl) (itL ?_);w_left;refine Xu ?_ (by exact rfl);w_fin;refine ⟨_,rfl,?_⟩;by_cases e:fnd s.ls (root h.ab) (some i) a=fnd s.ls (root h.ab) (some i) b
  · refine ifN (by simp [e]) ?_;w_fin;refine ⟨by simp,λD hD=>⟨D,_,rfl,MH.set_same ..,.inr ⟨rfl,rfl⟩,λits ρ σ2=>A3 (its=[]) (σ2=σ1.set D (.list [])) (ρ=([("self",some (.inst 190 (L .ly))),("layer",some (.int i)),("a",some (.int a)),("b",some (.int b)),("is_new",some (.bool (!decide (fnd s.ls (root h.ab) (some i) a=fnd s.ls (root h.ab) (some i) b)))),("one",none)]:Rho)),⟨rfl,rfl,rfl⟩,?_,?_,?_⟩⟩
    · rintro its ρ σ2 ⟨rfl,rfl,rfl⟩;exact MH.set_same ..
    · rintro v rest Kc hKc ρ σ2 ⟨h,_⟩;cases h
    · rintro ρ σ2 ⟨_,rfl,rfl⟩;w_fin;exact ⟨rfl,L,_,Inv.garb I1 hD,λ_ _ _=>rfl,rfl,K1,V.addOld K hx e⟩
  · refine ifP (by simp [e]) ?_;ktf_call 3;refine Fn.useN (Qe ok I1 K1 (i:=i)) (by decide) ?_;intro D hD;rw [Jg];have casc:=over_asc K i;have V1:=V.addNew i (a,b);generalize hks:YM s i=ks at casc V1 ⊢;have hget:∀j∈ks,∃y,Zb (Xl s.ls i (a,b)) j=some y:=λj hj=>by
      rw [<-hks,<-Jg s i (a,b)] at hj;exact over_mem K1 hj
    have ht1:∀j y,Zb (Xl s.ls i (a,b)) j=some y->∀q∈y.told,q.1<h.nodes.length/\q.2<h.nodes.length:=by
      intro j y hy q hq;have:q∈ZO (Xl s.ls i (a,b)) j:=by unfold ZO;rw [hy];exact hq
      rcases (Wt hx (a,b) j q).1 this with h1 | ⟨_,rfl⟩
      · unfold ZO at h1;cases e:Zb s.ls j with
        | none=>rw [e] at h1;cases h1
        | some z=>rw [e] at h1;exact ht j z e q h1
      · exact ⟨ha,hb⟩
    have I2:=I1.newX hD 100 (.list (Za ks));have fix2:Z4 ⟨some h,some s,ex⟩ L (upd L (.x 100) D):=Z4.newX h100;refine ⟨D,_,rfl,MH.set_same ..,.inr ⟨rfl,rfl⟩,λits ρ σ2=>E5 λpre rest L2 ls2 o=>A9 (ks=pre++rest) (its=Za rest) (ρ=([("self",some (.inst 190 (L .ly))),("layer",some (.int i)),("a",some (.int a)),("b",some (.int b)),("is_new",some (.bool (!decide (fnd s.ls (root h.ab) (some i) a=fnd s.ls (root h.ab) (some i) b)))),("one",o)]:Rho)) (Inv σ2 L2 ⟨some h,some ⟨s.many,ls2⟩,exS ex 100 (some (.list (Za ks)))⟩) (L2 (.x 100)=D) (Z4 ⟨some h,some s,ex⟩ L L2) (ZE ls2=ZE (Xl s.ls i (a,b))) (LOk ⟨s.many,ls2⟩) (LV h.nodes P (root h.ab) ls2 (·∈rest)),
      ⟨[],ks,_,_,none,rfl,rfl,rfl,I2,Zn ..,fix2,rfl,K1,V1⟩,?_,?_,?_⟩
    · rintro its ρ σ2 ⟨pre,rest,L2,ls2,o,_,_,_,I3,e3,_⟩;rw [<-e3];exact I3.x'
    · rintro v its Kc hKc ρ σ2 ⟨pre,rest,L2,ls2,o,hk,e2,rfl,I3,e3,fix3,co3,K3,V3⟩;cases rest with
      | nil=>simp [Za] at e2
      | cons j rest=>
        simp only [Za,List.map_cons,List.cons.injEq] at e2;obtain ⟨rfl,rfl⟩:=e2;have hjk:j∈ks:=by rw [hk];simp
        obtain ⟨y,hy⟩:=hget j hjk;obtain ⟨z,hz',hu,htold⟩:=Y7 co3.symm hy;have asc3:(j::rest).Pairwise (· < ·):=by rw [hk] at casc;exact (List.pairwise_append.mp casc).2.1
        have pre3:∀k∈pre,k<j:=by rw [hk] at casc;exact λk hk'=>(List.pairwise_append.mp casc).2.2 k hk' j List.mem_cons_self
        have U3:=V3.under K3 hz' asc3;refine ZC (UpdR.tail<|UpdR.tail<|UpdR.tail<|UpdR.tail<|UpdR.tail UpdR.head) (.inl hFn) ?_;have ely2:L2 .ly=L .ly:=fix3 .ly rfl snn;rw [<-ely2];ktf_call 6;refine Fn.useV (JD ok I3 H K3 hz' U3 (by rw [htold];exact ht1 j y hy) (by rw [Zj (by simp)];exact h102)) (by decide) ?_;rintro σ3 ⟨L4,ws,f',I4,YW,J4,R4⟩;refine ⟨rfl,?_⟩;w_fin;obtain ⟨K4,hx4,_⟩:=X7 K3 hz' J4;have fix4':Z4 ⟨some h,some s,ex⟩ L L4:=fix3.then YW live_x
        refine ⟨pre++[j],rest,L4,_,_,by rw [hk];simp,rfl,by rw [ely2],I4,by rw [<-e3];exact YW.x',fix4',by rw [Jj];exact co3,K4,V3.step K3 hz' ?_ J4 R4⟩;intro k z2 hz2 hm;obtain ⟨z0,hz0,_⟩:=Y7 co3 hz2;have hm':j∈ZU (Xl s.ls i (a,b)) (some k):=by rw [<-Wx co3];exact hm
        have hkk:k∈ks:=by
          rw [<-hks,<-Jg s i (a,b)];rw [<-hks,<-Jg s i (a,b)] at hjk;exact over_up K1 hjk hz0 hm'
        rw [hk] at hkk;have hij:=(X1 K3 k hz2 j hm).1;rcases List.mem_append.mp hkk with q | q
        · have:=pre3 k q;lia
        · exact (List.mem_cons.mp q)
    · rintro ρ σ2 ⟨pre,rest,L2,ls2,o,hk,e2,rfl,I3,e3,fix3,co3,K3,V3⟩;have:rest=[]:=by cases rest with
        | nil=>rfl
        | cons _ _=>simp [Za] at e2
      subst this;w_fin;have I4:=I3.dropX 100;rw [Qf h100] at I4;exact ⟨rfl,L2,ls2,I4,fix3,co3,K3,V3.base,λi x hx _=>V3.each i x hx (by simp)⟩
end
set_option genSizeOf false
set_option genInjectivity false
set_option tactic.hygienic false
section
variable {S:Sys} {F:Frm} {n:Nat×Nat} {ρ:Rho} {σ:MH} {X:MH->Prop}
inductive UR (S:Sys) (F:Frm) (n:Nat×Nat) (X:MH->Prop) (c:Addr) (self:Str) (rest:List Stmt):Nat->List Stmt->List (G×Zd)->Prop where
  | nil {i:Nat}:UR S F n X c self rest i rest []
  | cons {i:Nat} {g:G} {ob:Zd} {x:Str} {p pos' pos:Pos} {value:Expr} {ss:List Stmt} {its:List (G×Zd)} (hf:Ya S c x i)
     (hv:∀{ρ:Rho} {σ:MH} {Q:V->MH->Prop},(∀D,σ D=none->Q (.ref D) (σ.set D ob))->WE S F n (eval value F.env) ρ σ Q X)
     (hs:swapsWith value (some (.Attribute (.Name self p) x pos')) pos.line F.env=pure false)
     (t:UR S F n X c self rest (i+1) ss its):UR S F n X c self rest i (.Assign [.Attribute (.Name self p) x pos'] value pos::ss) ((g,ob)::its)
noncomputable def Jv (C:CT):List (G×Zd)->CT
  | []=>C
  | it::r=>Jv (upd C it.1 (some it.2)) r
theorem upd_comm {β:Type} {f:G->β} {g k:G} {v u:β} (h:g≠k):upd (upd f k u) g v=upd (upd f g v) k u:=by
  funext j;unfold upd;by_cases e:j=g
  · rw [if_pos e,if_neg (λq=>h (e▸q)),if_pos e]
  · rw [if_neg e,if_neg e]
theorem upd_upd {β:Type} {f:G->β} {g:G} {v u:β}:upd (upd f g u) g v=upd f g v:=by
  funext j;unfold upd;by_cases e:j=g
  · rw [if_pos e,if_pos e]
  · rw [if_neg e,if_neg e,if_neg e]
theorem Ur {gd:G} {x:Option Zd} {its:List (G×Zd)}:(∀it∈its,it.1≠gd)->∀C,Jv (upd C gd x) its=upd (Jv C its) gd x:=by
  induction its with
  | nil=>exact λ_ _=>rfl
  | cons it r ih=>exact λh C=>(congrArg (λC=>Jv C r) (upd_comm (h it List.mem_cons_self))).trans (ih (λj hj=>h j (List.mem_cons_of_mem _ hj)) _)
theorem WT (ok:SysOk S) {Q:MF->Rho->MH->Prop} {c a:Addr} (gd:G) {self:Str} (hself:(self,some (.inst c a))∈ρ) {rest:List Stmt} {i:Nat} {ss:List Stmt} {its:List (G×Zd)} (P:UR S F n X c self rest i ss its) :
    ∀{L:Lay} {C:CT} {σ:MH} {ms:List V},Own σ L C->L gd=a->ms.length=i->i+its.length<=100->(∀it∈its,it.1≠gd)->(its.map Prod.fst).Nodup->C gd=some (.flds c ms)->
    (∀(L':Lay) σ',Own σ' L' (upd (Jv C its) gd (some (.flds c (ms++its.map λit=>.ref (L' it.1)))))->(∀k,k∉its.map Prod.fst->L' k=L k)->WS S F n (execs rest F.env) ρ σ' Q X)->WS S F n (execs ss F.env) ρ σ Q X:=by
  induction P with
  | nil=>
    intro L C σ ms O _ _ _ _ _ hc k;refine k L σ (O.eq λg=>?_) λ_ _=>rfl;by_cases e:g=gd
    · cases e;exact (Zn ..).trans ((congrArg (λm=>some (Zd.flds c m)) (List.append_nil ms)).trans hc.symm)
    · exact Zk e
  | @cons i g ob x p pos' pos value ss its hf hv hs t ih=>
    intro L C σ ms O hL hm hz hne hnd hc k;cases hL;cases hm;have h1:=hne _ List.mem_cons_self;have h2:∀it∈its,it.1≠gd:=λit hit=>hne it (List.mem_cons_of_mem _ hit);have h3:=List.nodup_cons.mp hnd;refine sConsK λK hK=>sPart ok g gd ob O hself hc (Ne.symm h1) hf (by simp only [List.length_cons] at hz;lia) hv hs λL' σ' O' k'=>unSeq hK (ih O' (k' gd (Ne.symm h1)) (by simp) (by simp only [List.length_cons] at hz;lia) h2 h3.2 (Zn ..) λL2 σ2 O2 k2=>?_);have e:L2 g=L' g:=k2 g h3.1;have O3:Own σ2 L2 (upd (Jv (upd C g (some ob)) its) gd (some (.flds c (ms++.ref (L2 g)::its.map λit=>.ref (L2 it.1))))):=by
      rw [Ur h2,upd_upd,List.append_assoc,<-e] at O2;exact O2
    exact k L2 σ2 O3 λj hj=>by
      rw [List.map_cons,List.mem_cons,not_or] at hj;exact (k2 j hj.2).trans (k' j hj.1)
end
theorem ct_cong {L L':Lay} {w:Wd} (h:∀g,Z3 L w g≠none->L' g=L g) (hd:L' .d=L .d):Z3 L' w=Z3 L w:=by
  have some_ne:∀{o:Zd},some o≠none:=λe=>by cases e
  obtain ⟨oh,ol,ex⟩:=w;have hH:∀{h':HS},oh=some h'->∀g,Z3 L ⟨some h',ol,ex⟩ g≠none->L' g=L g:=λe=>by cases e;exact h
  have hL:∀{s:LS},ol=some s->∀g,Z3 L ⟨oh,some s,ex⟩ g≠none->L' g=L g:=λe=>by cases e;exact h
  funext g;cases g with
  | d=>
    cases oh with
    | none=>rfl
    | some h'=>have k:=hH rfl;show some (Zd.flds _ _)=some (Zd.flds _ _);rw [k .b some_ne,k .u some_ne,k .ed some_ne,k .fo some_ne,k .kn some_ne,k .av some_ne,k .wt some_ne]
  | b=>
    cases oh with
    | none=>rfl
    | some h'=>have k:=hH rfl;show some (Zd.flds _ _)=some (Zd.flds _ _);rw [k .nl some_ne,k .nm some_ne,k .wl some_ne,k .dl some_ne]
  | u=>
    cases oh with
    | none=>rfl
    | some h'=>have k:=hH rfl;show some (Zd.flds _ _)=some (Zd.flds _ _);rw [k .ab some_ne,k .lt some_ne,k .mg some_ne]
  | lt=>
    cases oh with
    | none=>rfl
    | some h'=>
      refine congrArg (λl=>some (Zd.list l)) (List.map_congr_left λi hi=>congrArg V.ref (hH rfl (.lot i) ?_));show (h'.lots[i]?).map _≠none;rw [List.getElem?_eq_getElem (List.mem_range.mp hi)];exact some_ne
  | av=>
    cases oh with
    | none=>rfl
    | some h'=>
      refine congrArg (λl=>some (Zd.dict l)) (List.map_congr_left λp hp=>congrArg (λa=>(_,V.ref a)) (hH rfl (.use p.1) ?_));show (Zb h'.uses p.1).map _≠none;cases e:Zb h'.uses p.1 with
      | none=>exact absurd rfl (Ym.mp e p hp)
      | some l=>exact some_ne
  | ly=>
    cases ol with
    | none=>rfl
    | some s=>have k:=hL rfl;show some (Zd.flds _ _)=some (Zd.flds _ _);rw [hd,k .bn some_ne,k .td some_ne,k .wy some_ne]
  | td=>
    cases ol with
    | none=>rfl
    | some s=>
      refine congrArg (λl=>some (Zd.dict l)) (List.map_congr_left λp hp=>congrArg (λa=>(_,V.ref a)) (hL rfl (.tdl p.1) ?_));show (Zb s.ls p.1).map _≠none;cases e:Zb s.ls p.1 with
      | none=>exact absurd rfl (Ym.mp e p hp)
      | some l=>exact some_ne
  | wy=>
    cases ol with
    | none=>rfl
    | some s=>
      refine congrArg (λl=>some (Zd.dict l)) (List.map_congr_left λp hp=>congrArg (λa=>(_,V.ref a)) (hL rfl (.way p.1) ?_));show (Zb s.ls p.1).map _≠none;cases e:Zb s.ls p.1 with
      | none=>exact absurd rfl (Ym.mp e p hp)
      | some l=>exact some_ne
  | _=>rfl
theorem Uo {L:Lay} {w:Wd} {g:G} (a:Addr) (h:Z3 L w g=none) (hd:g≠.d):Z3 (upd L g a) w=Z3 L w:=
  ct_cong (λk hk=>Zk λe=>hk (e▸h)) (Zk λe=>hd e.symm)
set_option tactic.hygienic false
section
variable {w:World} {h0:Heap}
variable {σ:MH} {L:Lay} {s:LS} {oh:Option HS} {ex:Nat->Option Zd}
theorem Vr {ls:ZK} {f:Nat×LI->V} {i:Nat} {v:V} (h:Zb ls i=none):YU (ls.map λp=>((Sum.inr (p.1:Int):Key),f p)) (.inr (i:Int)) v=(ls.map λp=>((Sum.inr (p.1:Int):Key),f p))++[(.inr (i:Int),v)]:=by
  unfold YU;rw [if_neg];rw [Ym] at h;simp only [List.any_map,List.any_eq_true,Function.comp,decide_eq_true_eq,Sum.inr.injEq,not_exists,not_and];intro p hp e;exact h p hp (by lia)
theorem Jo (ok:SysOk (SS w h0)) (I:Inv σ L ⟨oh,some s,ex⟩) (K:LOk s) {o:Option Nat} (ho:isL s.ls o) :
    Fn (SS w h0) 2 (.ref 97) [.inst 190 (L .ly),Zs o] σ (λm σ'=>m=.int s.many/\∃L',Inv σ' L' ⟨oh,some (newL s o),ex⟩/\Z4 ⟨oh,some s,ex⟩ L L'):=by
  have hz:=K.small;refine' Fn.introK (k:=1) (ps:=["self","beneath"]) ok ?h1 ?h2 ?h3 ?h4 ?h5 ?h6 ?h7 ?h8 ?h9 ?b ?h10 (ρ₀:=[("self",some (.inst 190 (L .ly))),("beneath",some (Zs o)),("layer",none)]) ?h11 ?h12
  case h1 | h3 | h4 | h5 | h6 | h7 | h8 | h9 | h11=>exact rfl
  case h2=>kernel_rfl
  case h10=>decide +kernel
  case b=>intro us h;obtain ⟨_,_,rfl⟩:=len2 h;exact rfl
  intro K_ hK_ F hF hFn;ktf_call 1;refine Fn.useP (want_ok ok I ho) (by decide) ?_;refine ⟨rfl,?_⟩;w_fin;refine sFld ok ?_ (by exact rfl);w_fin;refine Jp ?_;w_fin;refine ⟨_,_,_,4,rfl,I.ly,ff_190_many,by simp,by simp,?_⟩;have O1:=Own.set I (g:=.ly) (.flds 190 [.inst 520 (L .d),.ref (L .bn),.ref (L .td),.ref (L .wy),.int (s.many+1:Int)]) rfl;have dead1:Z3 L ⟨oh,some s,ex⟩ (.tdl s.many)=none:=by show (Zb s.ls s.many).map _=none;rw [K.fresh];rfl
  w_left;show WS _ _ _ _ _ (σ.set (L .ly) (.flds 190 [.inst 520 (L .d),.ref (L .bn),.ref (L .td),.ref (L .wy),.int (s.many+1:Int)])) _ _;generalize σ.set (L .ly) (.flds 190 [.inst 520 (L .d),.ref (L .bn),.ref (L .td),.ref (L .wy),.int (s.many+1:Int)])=σ1 at O1 ⊢;have a1:=O1.get .ly _ rfl;have b1:σ1 (L .bn)=_:=O1.get .bn _ rfl;w_fin;refine WN ?_ (by exact rfl);w_fin;refine X8 (k:=.inr (s.many:Int)) rfl b1 (by simp;lia) ?_;rw [Vr K.fresh];have O2:=Own.set O1 (g:=.bn) (.dict ((s.ls.map λp=>((Sum.inr (p.1:Int):Key),Zs p.2.under))++[(.inr (s.many:Int),Zs o)])) rfl;generalize σ1.set (L .bn) (.dict ((s.ls.map λp=>((Sum.inr (p.1:Int):Key),Zs p.2.under))++[(.inr (s.many:Int),Zs o)]))=σ2 at O2 ⊢;w_fin;refine WN ?_ (by exact rfl);w_fin;refine ⟨by exact (by decide:0<=1000),λD3 hD3=>?_⟩;have O3:=Own.new O2 hD3 (.tdl s.many) (.list []);have e3:∀g,g≠.tdl s.many->upd L (.tdl s.many) D3 g=L g:=λg=>Zk;have d3:upd L (.tdl s.many) D3 (.tdl s.many)=D3:=Zn ..;have dead2:Z3 (upd L (.tdl s.many) D3) ⟨oh,some s,ex⟩ (.way s.many)=none:=by show (Zb s.ls s.many).map _=none;rw [K.fresh];rfl
  rw [<-Uo D3 dead1 (gne rfl)] at O3;generalize upd L (.tdl s.many) D3=L3 at O3 e3 d3 dead2;generalize σ2.set D3 (.list [])=σ3 at O3 ⊢;have a3:=O3.get .ly _ rfl;rw [e3 .ly (gne rfl)] at a3;have b3:σ3 (L .td)=some (.dict (s.ls.map λp=>((Sum.inr (p.1:Int):Key),V.ref (L3 (.tdl p.1))))):=by rw [<-e3 .td (gne rfl)];exact O3.get .td _ rfl
  w_fin;refine X8 (k:=.inr (s.many:Int)) rfl b3 (by simp;lia) ?_;rw [Vr (f:=λp=>V.ref (L3 (.tdl p.1))) K.fresh];have O4:=Own.set O3 (g:=.td) (.dict ((s.ls.map λp=>((Sum.inr (p.1:Int):Key),V.ref (L3 (.tdl p.1))))++[(.inr (s.many:Int),.ref D3)])) rfl;rw [e3 .td (gne rfl)] at O4;w_left;show WS _ _ _ _ _ (σ3.set (L .td) (.dict ((s.ls.map λp=>((Sum.inr (p.1:Int):Key),V.ref (L3 (.tdl p.1))))++[(.inr (s.many:Int),.ref D3)]))) _ _;generalize σ3.set (L .td) (.dict ((s.ls.map λp=>((Sum.inr (p.1:Int):Key),V.ref (L3 (.tdl p.1))))++[(.inr (s.many:Int),.ref D3)]))=σ4 at O4 ⊢;w_fin;refine WN ?_ (by exact rfl);refine UD (λD5 hD5=>?_);have O5:=Own.new O4 hD5 (.way s.many) (.dict []);have e5:∀g,g≠.way s.many->upd L3 (.way s.many) D5 g=L3 g:=λg=>Zk;have d5:upd L3 (.way s.many) D5 (.way s.many)=D5:=Zn ..;rw [<-Uo D5 dead2 (gne rfl)] at O5;generalize upd L3 (.way s.many) D5=L5 at O5 e5 d5;generalize σ4.set D5 (.dict [])=σ5 at O5 ⊢;have e53:∀g,g≠.way s.many->g≠.tdl s.many->L5 g=L g:=λg h1 h2=>(e5 g h1).trans (e3 g h2);have a5:=O5.get .ly _ rfl;rw [e53 .ly (gne rfl) (gne rfl)] at a5;have b5:σ5 (L .wy)=some (.dict (s.ls.map λp=>((Sum.inr (p.1:Int):Key),V.ref (L5 (.way p.1))))):=by rw [<-e53 .wy (gne rfl) (gne rfl)];exact O5.get .wy _ rfl
  w_fin;refine X8 (k:=.inr (s.many:Int)) rfl b5 (by simp;lia) ?_;rw [Vr (f:=λp=>V.ref (L5 (.way p.1))) K.fresh];have O6:=Own.set O5 (g:=.wy) (.dict ((s.ls.map λp=>((Sum.inr (p.1:Int):Key),V.ref (L5 (.way p.1))))++[(.inr (s.many:Int),.ref D5)])) rfl;rw [e53 .wy (gne rfl) (gne rfl)] at O6;w_fin;have t5:∀p:Nat×LI,V.ref (L3 (.tdl p.1))=V.ref (L5 (.tdl p.1)):=λp=>congrArg V.ref (e5 _ (gne rfl)).symm;have d53:L5 (.tdl s.many)=D3:=(e5 _ (gne rfl)).trans d3;refine ⟨rfl,L5,O6.eq λg=>?_,λg hg _=>e53 g (λe=>by cases e;cases hg) (λe=>by cases e;cases hg)⟩;cases g with
  | ly=>
    have k:∀g,decide (g=.way s.many)=false->decide (g=.tdl s.many)=false->L5 g=L g:=λg a b=>e53 g (gne a) (gne b);show some (Zd.flds 190 [.inst 520 (L5 .d),.ref (L5 .bn),.ref (L5 .td),.ref (L5 .wy),_])=some _;rw [k .d rfl rfl,k .bn rfl rfl,k .td rfl rfl,k .wy rfl rfl];rfl
  | bn=>exact congrArg (λl=>some (Zd.dict l)) (List.map_append (l₁:=s.ls))
  | td=>
    refine congrArg (λl=>some (Zd.dict l)) ((List.map_append (l₁:=s.ls)).trans ?_);rw [<-d53];exact congrArg (·++_) (List.map_congr_left λp _=>congrArg (λv=>(_,v)) (t5 p).symm)
  | wy=>
    refine congrArg (λl=>some (Zd.dict l)) ((List.map_append (l₁:=s.ls)).trans ?_);rw [<-d5];rfl
  | tdl j=>
    by_cases q:j=s.many
    · cases q;show Option.map _ (Zb (newL s o).ls s.many)=upd (upd (upd (Z3 L5 ⟨oh,some s,ex⟩) .ly _) .bn _) (.tdl s.many) _ (.tdl s.many);rw [Ka K,Zn];rfl
    · show Option.map _ (Zb (newL s o).ls j)=upd (upd (upd (Z3 L5 ⟨oh,some s,ex⟩) .ly _) .bn _) (.tdl s.many) _ (.tdl j);rw [JX q,Zk λe=>q (G.tdl.inj e)];rfl
  | way j=>
    by_cases q:j=s.many
    · cases q;show Option.map _ (Zb (newL s o).ls s.many)=upd (Z3 L5 ⟨oh,some s,ex⟩) (.way s.many) _ (.way s.many);rw [Ka K,Zn];rfl
    · show Option.map _ (Zb (newL s o).ls j)=upd (Z3 L5 ⟨oh,some s,ex⟩) (.way s.many) _ (.way j);rw [JX q,Zk λe=>q (G.way.inj e)];rfl
  | _=>rfl
end
set_option tactic.hygienic false
section
variable {w:World} {h0:Heap}
variable {σ:MH} {L:Lay} {s:LS} {h:HS} {l:Option LS} {ex:Nat->Option Zd}
noncomputable def Xs (h:HS):List Nat:=(List.range h.ab.length).filter λa=>decide (h.ab.getD a a=a)
theorem Kw {p:V->Bool} {q:Nat->Bool} (e:∀i:Nat,p (.int i)=q i) (ks:List Nat):(Za ks).filter p=Za (ks.filter q):=by
  unfold Za;rw [List.filter_map];congr 1;apply List.filter_congr;intro x _;exact e x
theorem K9 (ok:SysOk (SS w h0)) (I:Inv σ L ⟨some h,l,ex⟩) (hz:h.ab.length<=60) :
    Fn (SS w h0) 1 (.ref 364) [.inst 388 (L .u)] σ (λm σ'=>∃D,A3 (σ D=none) (m=.ref D) (σ'=σ.set D (.list (Za (Xs h))))):=by
  refine' Fn.introK (k:=0) (ps:=["self"]) ok ?h1 ?h2 ?h3 ?h4 ?h5 ?h6 ?h7 ?h8 ?h9 ?b ?h10 (ρ₀:=[("self",some (.inst 388 (L .u)))]) ?h11 ?h12
  case h1 | h3 | h4 | h5 | h6 | h7 | h8 | h9 | h11=>exact rfl
  case h2=>kernel_rfl
  case h10=>decide +kernel
  case b=>intro us h;obtain ⟨_,rfl⟩:=len1 h;exact rfl
  intro K_ hK_ F hF hFn;w_left;w_left;refine WC (λo=>[(".0",none),("a",o),("self",some (.inst 388 (L .u)))]) (λ_=>by exact rfl) hF (by exact rfl) rfl (by exact rfl) (λ_ _=>UpdR.tail UpdR.head) (λFc h=>by show Fc.env.scope.names.lookup _=_;rw [h];exact rfl) (itR ?_);tbr_iter YK;tbr_iter Z1;refine YG I.ab (by simp [Za];lia) ?_;w_fin;refine Y2 ⟨h.ab.length,by simp [Za],by lia,rfl,by simp;lia,λ_ _=>trivial,λv=>match v with | .int j=>decide (h.ab.getD j.toNat j.toNat=j.toNat) | _=>false,id,?_,?_,λa ha=>unK hK_ ⟨a,ha,rfl,?_⟩⟩
  · intro Fc hFc hFn' v hv σ2 e;obtain ⟨j,hj,rfl⟩:=Yi hv;have hj':j<h.ab.length:=by simpa using hj
    have I2:=I.ext e;w_fin;refine ZX I2.ab (by lia) (by lia) (by simp [Za,hj'];rfl) ?_ (by exact rfl);w_fin;refine V2 ⟨_,rfl,rfl,?_⟩;rw [Ws];simp [List.getD,hj']
  · intro Fc hFc hFn' v hv _ σ2 e;w_fin;exact ⟨rfl,rfl⟩
  · rw [List.map_id];congr 2;exact Kw (λi=>by simp) _
theorem W4 (ok:SysOk (SS w h0)) (I:Inv σ L ⟨some h,l,ex⟩) (hz:h.ab.length<=60) :
    Fn (SS w h0) 2 (.ref 484) [.inst 520 (L .d)] σ (λm σ'=>∃D,A3 (σ D=none) (m=.ref D) (σ'=σ.set D (.list (Za (Xs h))))):=by
  refine' Fn.introK (k:=1) (ps:=["self"]) ok ?h1 ?h2 ?h3 ?h4 ?h5 ?h6 ?h7 ?h8 ?h9 ?b ?h10 (ρ₀:=[("self",some (.inst 520 (L .d)))]) ?h11 ?h12
  case h1 | h3 | h4 | h5 | h6 | h7 | h8 | h9 | h11=>exact rfl
  case h2=>kernel_rfl
  case h10=>decide +kernel
  case b=>intro us h;obtain ⟨_,rfl⟩:=len1 h;exact rfl
  intro K_ hK_ F hF hFn;ktf_call 1;exact (K9 ok I hz).toK hK_
theorem Xj (ok:SysOk (SS w h0)) (I:Inv σ L ⟨some h,some s,ex⟩) (H:HOk h) (K:LOk s) {o:Option Nat} (ho:isL s.ls o) {c:Nat} (hc:c<h.nodes.length) :
    Fn (SS w h0) 4 (.ref 173) [.inst 190 (L .ly),Zs o,.int c] σ (λm σ'=>∃D,A3 (σ D=none) (m=.ref D) (σ'=σ.set D (.list (Za ((List.range h.nodes.length).filter λn=>decide (fnd s.ls (root h.ab) o n=fnd s.ls (root h.ab) o c)))))):=by
  have hz:=H.small;refine' Fn.introK (k:=3) (ps:=["self","layer","c"]) ok ?h1 ?h2 ?h3 ?h4 ?h5 ?h6 ?h7 ?h8 ?h9 ?b ?h10 (ρ₀:=[("self",some (.inst 190 (L .ly))),("layer",some (Zs o)),("c",some (.int c))]) ?h11 ?h12
  case h1 | h3 | h4 | h5 | h6 | h7 | h8 | h9 | h11=>exact rfl
  case h2=>kernel_rfl
  case h10=>decide +kernel
  case b=>intro us h;obtain ⟨_,_,_,rfl⟩:=len3 h;exact rfl
  intro K_ hK_ F hF hFn;ktf_call 3;refine Fn.useP (Z0 ok I H K ho hc) (by decide) ?_;w_fin;refine WC (λq=>[(".0",none),("n",q),("c",some (.int (fnd s.ls (root h.ab) o c))),("layer",some (Zs o)),("self",some (.inst 190 (L .ly)))]) (λ_=>by exact rfl) hF (by exact rfl) rfl (by exact rfl) (λ_ _=>UpdR.tail UpdR.head) (λFc h=>by show Fc.env.scope.names.lookup _=_;rw [h];exact rfl) (itR ?_);tbr_iter YK;ktf_call 2;refine Fn.useP (Vp ok I H) (by decide) ?_;w_fin;refine Y2 ⟨h.nodes.length,rfl,by lia,rfl,by simp;lia,λ_ _=>trivial,λv=>match v with | .int j=>decide (fnd s.ls (root h.ab) o j.toNat=fnd s.ls (root h.ab) o c) | _=>false,id,?_,?_,λa ha=>unK hK_ ⟨a,ha,rfl,?_⟩⟩
  · intro Fc hFc hFn' v hv σ2 e;obtain ⟨j,hj,rfl⟩:=Yi hv;have hj':j<h.nodes.length:=by simpa using hj
    have I2:=I.ext e;ktf_call 3;refine Fn.useP (Z0 ok I2 H K ho hj') (by decide) ?_;w_fin;refine V2 ⟨_,rfl,rfl,?_⟩;rw [Ws];simp
  · intro Fc hFc hFn' v hv _ σ2 e;w_fin;exact ⟨rfl,rfl⟩
  · rw [List.map_id];congr 2;exact Kw (λi=>by simp) _
end
set_option tactic.hygienic false
section
variable {w:World} {h0:Heap}
variable {σ:MH} {L:Lay} {s:LS} {h:HS} {l:Option LS} {ex:Nat->Option Zd}
theorem YH (ok:SysOk (SS w h0)) (I:Inv σ L ⟨some h,some s,ex⟩) (H:HOk h) (K:LOk s) {o:Option Nat} (ho:isL s.ls o) :
    Fn (SS w h0) 4 (.ref 168) [.inst 190 (L .ly),Zs o] σ (λm σ'=>E2 λD ob=>A4 (σ D=none) (m=.ref D) (σ'=σ.set D ob) (∃(js:List Int),A4 (ob=.list (js.map V.int)) (js.Nodup) (js.Pairwise (·<=·)) (∀k,k∈js ↔ ∃a,a<h.nodes.length/\k=(fnd s.ls (root h.ab) o a:Nat)))):=by
  have hz:=H.small;have hl:=H.len;refine Fn.newPA ?_;refine' Fn.introK (k:=3) (ps:=["self","layer"]) ok ?h1 ?h2 ?h3 ?h4 ?h5 ?h6 ?h7 ?h8 ?h9 ?b ?h10 (ρ₀:=[("self",some (.inst 190 (L .ly))),("layer",some (Zs o))]) ?h11 ?h12
  case h1 | h3 | h4 | h5 | h6 | h7 | h8 | h9 | h11=>exact rfl
  case h2=>kernel_rfl
  case h10=>decide +kernel
  case b=>intro us h;obtain ⟨_,_,rfl⟩:=len2 h;exact rfl
  intro K_ hK_ F hF hFn;tbr_iter XA;tbr_iter Uw;refine Jc (λq=>[(".0",none),("c",q),("layer",some (Zs o)),("self",some (.inst 190 (L .ly)))]) (λ_=>by exact rfl) hF (by exact rfl) rfl (by exact rfl) (λ_ _=>UpdR.tail UpdR.head) (λFc h=>by show Fc.env.scope.names.lookup _=_;rw [h];exact rfl) (itL ?_);ktf_call 2;refine Fn.useN (W4 ok I (by lia)) (by decide) ?_;intro D hD;have hlen:(Xs h).length<=60:=by
    unfold Xs;have:=List.length_filter_le (λa=>decide (h.ab.getD a a=a)) (List.range h.ab.length);rw [List.length_range] at this;lia
  refine ⟨D,_,rfl,MH.set_same ..,rfl,by simp [Za];lia,λσ2 e=>e _ _ (MH.set_same ..),Xo (fnd s.ls (root h.ab) o),?_,λa ha=>?_⟩
  · intro Fc hFc hFn' v hv σ2 e;obtain ⟨j,hj,rfl⟩:=Yi hv;have hj':j<h.nodes.length:=by
      unfold Xs at hj;have:=(List.mem_filter.mp hj).1;rw [List.mem_range] at this;lia
    have I2:=I.ext ((Ext.set hD).trans e);ktf_call 3;refine Fn.useP (Z0 ok I2 H K ho hj') (by decide) ?_;exact ⟨rfl,by simp [XH]⟩
  rw [Yv];w_fin;refine p_set (is:=((Xs h).map (fnd s.ls (root h.ab) o)).map λ(i:Nat)=>(i:Int)) (MH.set_same ..) (by simp [Za,List.map_map,Function.comp_def]) (by simp;lia) ?_;intro D2 hD2;w_fin;refine Ko (MH.set_same ..) (by simp;lia) ?_;intro D3 js hD3 nd hm srt;refine unK hK_ ⟨D3,_,?_,rfl,((Ext.set hD).trans ((Ext.set ha).trans (Ext.set hD2))).put D3 _,js,rfl,nd,srt,λk=>?_⟩
  · exact Zx ((Ext.set hD).trans ((Ext.set ha).trans (Ext.set hD2))) hD3
  · rw [hm];simp only [List.mem_map];constructor
    · rintro ⟨_,⟨b,hb,rfl⟩,rfl⟩;unfold Xs at hb;have:=(List.mem_filter.mp hb).1;rw [List.mem_range] at this;exact ⟨b,by lia,rfl⟩
    · rintro ⟨a,ha,rfl⟩;have rp:=root_rp H.up;refine ⟨_,⟨root h.ab a,?_,rfl⟩,?_⟩
      · unfold Xs;refine List.mem_filter.mpr ⟨by rw [List.mem_range];have:=rp.1 a;lia,?_⟩;simpa using QH H.up a
      · unfold fnd;rw [rp.2]
end
set_option tactic.hygienic false
section
variable {w:World} {h0:Heap}
variable {σ:MH} {L:Lay} {s:LS} {h:HS} {l:Option LS} {ex:Nat->Option Zd}
noncomputable def layersI:List (G×Zd):=[(.bn,.dict []),(.td,.dict []),(.wy,.dict [])]
theorem QV (ok:SysOk (SS w h0)) (I:Inv σ L ⟨some h,none,ex⟩) {d:Addr} (hd:σ d=none) :
    Fn (SS w h0) 1 (.ref 83) [.inst 190 d,.inst 520 (L .d)] (σ.set d (.flds 190 [])) (λm σ'=>m=.none/\∃L',A3 (Inv σ' L' ⟨some h,some ⟨0,[]⟩,ex⟩) (L' .ly=d) (Z4 ⟨some h,none,ex⟩ L L')):=by
  have O1:=Own.new I hd .ly (.flds 190 []);generalize σ.set d (.flds 190 [])=σ1 at O1 ⊢;refine' Fn.introK (k:=0) (ps:=["self","heap"]) ok ?h1 ?h2 ?h3 ?h4 ?h5 ?h6 ?h7 ?h8 ?h9 ?b ?h10 (ρ₀:=[("self",some (.inst 190 d)),("heap",some (.inst 520 (L .d)))]) ?h11 ?h12
  case h1 | h3 | h4 | h5 | h6 | h7 | h8 | h9 | h11=>exact rfl
  case h2=>kernel_rfl
  case h10=>decide +kernel
  case b=>intro us h;obtain ⟨_,_,rfl⟩:=len2 h;exact rfl
  intro K_ hK_ F hF hFn;w_fin;refine sFld ok ?_ (by exact rfl);w_fin;refine ⟨_,_,_,0,rfl,O1.get .ly _ rfl,ff_190_heap,by decide,by decide,?_⟩;have O2:Own (σ1.set d (.flds 190 [.inst 520 (L .d)])) _ _:=Own.set O1 (g:=.ly) (.flds 190 [.inst 520 (L .d)]) rfl;w_left;show WS _ _ _ _ _ (σ1.set d (.flds 190 [.inst 520 (L .d)])) _ _;generalize σ1.set d (.flds 190 [.inst 520 (L .d)])=σ2 at O2;refine WT ok .ly (c:=190) (a:=d) (by kst_mem) (i:=1) (its:=layersI) (.cons ff_190_beneath vD (by exact rfl)<|.cons ff_190_told vD (by exact rfl)<|.cons ff_190_ways vD (by exact rfl) .nil) O2 rfl rfl (by decide) (by decide) (by decide) rfl λL5 σ5 O5 k5=>?_;have ely:L5 .ly=d:=k5 .ly (by decide);w_fin;refine sFld ok ?_ (by exact rfl);w_fin;refine ⟨_,_,_,4,rfl,by rw [<-ely];exact O5.get .ly _ rfl,ff_190_many,by exact Nat.le_refl 4,by exact (by decide:4<=100),?_⟩;have O6:=Own.set O5 (g:=.ly) (.flds 190 [.inst 520 (L .d),.ref (L5 .bn),.ref (L5 .td),.ref (L5 .wy),.int 0]) rfl;w_left;have k:∀g,Z3 L ⟨some h,none,ex⟩ g≠none->L5 g=L g:=λg hg=>
    (k5 g (λq=>by rcases List.mem_cons.mp q with rfl | q;exact hg rfl;rcases List.mem_cons.mp q with rfl | q;exact hg rfl;rcases List.mem_cons.mp q with rfl | q;exact hg rfl;cases q)).trans (Zk λq=>by cases q;exact hg rfl)
  have ed:L5 .d=L .d:=k .d λq=>by cases q
  rw [<-ct_cong k ed,ely] at O6;refine ⟨rfl,L5,O6.eq λg=>?_,ely,λg _ hc=>k g hc⟩;cases g with
  | ly=>show some (Zd.flds 190 (V.inst 520 (L5 .d)::_))=_;rw [ed];rfl
  | _=>rfl
end
set_option tactic.hygienic false
section
variable {w:World} {h0:Heap}
variable {σ:MH} {L:Lay} {C:CT} {ex:Nat->Option Zd}
noncomputable def Wm:List (G×Zd):=[(.nl,.list []),(.nm,.tdict []),(.wl,.list []),(.dl,.list [])]
noncomputable def Je:List (G×Zd):=[(.ab,.list []),(.lt,.list []),(.mg,.list [])]
noncomputable def heapI:List (G×Zd):=[(.ed,.list []),(.fo,.list []),(.kn,.tdict []),(.av,.dict []),(.wt,.list [])]
noncomputable def newC (C:CT) (gd:G) (c:Addr) (its:List (G×Zd)) (L':Lay):CT:=upd (Jv (upd C gd (some (.flds c []))) its) gd (some (.flds c (its.map λit=>.ref (L' it.1))))
theorem bank_init (ok:SysOk (SS w h0)) (I:Own σ L C) {d:Addr} (hd:σ d=none) :
    Fn (SS w h0) 1 (.ref 218) [.inst 306 d] (σ.set d (.flds 306 [])) (λm σ'=>m=.none/\∃L',A3 (Own σ' L' (newC C .b 306 Wm L')) (L' .b=d) (∀g,g∉G.b::Wm.map Prod.fst->L' g=L g)):=by
  have O1:=Own.new I hd .b (.flds 306 []);generalize σ.set d (.flds 306 [])=σ1 at O1 ⊢;refine' Fn.introK (k:=0) (ps:=["self"]) ok ?h1 ?h2 ?h3 ?h4 ?h5 ?h6 ?h7 ?h8 ?h9 ?b ?h10 (ρ₀:=[("self",some (.inst 306 d))]) ?h11 ?h12
  case h1 | h3 | h4 | h5 | h6 | h7 | h8 | h9 | h11=>exact rfl
  case h2=>kernel_rfl
  case h10=>decide +kernel
  case b=>intro us h;obtain ⟨_,rfl⟩:=len1 h;exact rfl
  intro K_ hK_ F hF hFn;refine WT ok .b (c:=306) (a:=d) (by kst_mem) (i:=0) (its:=Wm) (.cons ff_306_nodes vL (by exact rfl)<|.cons ff_306_numbers vTD (by exact rfl)<|.cons ff_306_weights vL (by exact rfl)<|.cons ff_306_depths vL (by exact rfl) .nil) O1 rfl rfl (by decide) (by decide) (by decide) rfl λL5 σ5 O5 k5=>?_;refine sNil (unK hK_ ⟨rfl,L5,O5,k5 .b (by decide),λg hg=>?_⟩);rw [List.mem_cons,not_or] at hg;exact (k5 g hg.2).trans (Zk hg.1)
theorem QD (ok:SysOk (SS w h0)) (I:Own σ L C) {d:Addr} (hd:σ d=none) :
    Fn (SS w h0) 1 (.ref 324) [.inst 388 d] (σ.set d (.flds 388 [])) (λm σ'=>m=.none/\∃L',A3 (Own σ' L' (newC C .u 388 Je L')) (L' .u=d) (∀g,g∉G.u::Je.map Prod.fst->L' g=L g)):=by
  have O1:=Own.new I hd .u (.flds 388 []);generalize σ.set d (.flds 388 [])=σ1 at O1 ⊢;refine' Fn.introK (k:=0) (ps:=["self"]) ok ?h1 ?h2 ?h3 ?h4 ?h5 ?h6 ?h7 ?h8 ?h9 ?b ?h10 (ρ₀:=[("self",some (.inst 388 d))]) ?h11 ?h12
  case h1 | h3 | h4 | h5 | h6 | h7 | h8 | h9 | h11=>exact rfl
  case h2=>kernel_rfl
  case h10=>decide +kernel
  case b=>intro us h;obtain ⟨_,rfl⟩:=len1 h;exact rfl
  intro K_ hK_ F hF hFn;refine WT ok .u (c:=388) (a:=d) (by kst_mem) (i:=0) (its:=Je) (.cons ff_388_above vL (by exact rfl)<|.cons ff_388_lots vL (by exact rfl)<|.cons ff_388_merged vL (by exact rfl) .nil) O1 rfl rfl (by decide) (by decide) (by decide) rfl λL5 σ5 O5 k5=>?_;refine sNil (unK hK_ ⟨rfl,L5,O5,k5 .u (by decide),λg hg=>?_⟩);rw [List.mem_cons,not_or] at hg;exact (k5 g hg.2).trans (Zk hg.1)
noncomputable def WR:HS:=⟨[],[],[],[],[],[],[],[],[],[],[]⟩
theorem UU {L L':Lay} {its:List (G×Zd)} (h:∀it∈its,L' it.1=L it.1):(its.map λit=>V.ref (L it.1))=its.map λit=>.ref (L' it.1):=
  List.map_congr_left λit hi=>congrArg V.ref (h it hi).symm
noncomputable def notX:G->Bool
  | .x _=>false
  | _=>true
theorem heap_init (ok:SysOk (SS w h0)) (I:Inv σ L ⟨none,none,ex⟩) {d:Addr} (hd:σ d=none) :
    Fn (SS w h0) 3 (.ref 406) [.inst 520 d] (σ.set d (.flds 520 [])) (λm σ'=>m=.none/\∃L',A3 (Inv σ' L' ⟨some WR,none,ex⟩) (L' .d=d) (Z4 ⟨none,none,ex⟩ L L')):=by
  have O1:=Own.new I hd .d (.flds 520 []);have e1:upd L .d d .d=d:=rfl;have k1:∀g,g≠.d->upd L .d d g=L g:=λg=>Zk;generalize hC0:Z3 L ⟨none,none,ex⟩=C0 at O1;generalize upd L .d d=L1 at O1 e1 k1;generalize σ.set d (.flds 520 [])=σ1 at O1 ⊢;refine' Fn.introK (k:=2) (ps:=["self"]) ok ?h1 ?h2 ?h3 ?h4 ?h5 ?h6 ?h7 ?h8 ?h9 ?b ?h10 (ρ₀:=[("self",some (.inst 520 d))]) ?h11 ?h12
  case h1 | h3 | h4 | h5 | h6 | h7 | h8 | h9 | h11=>exact rfl
  case h2=>kernel_rfl
  case h10=>decide +kernel
  case b=>intro us h;obtain ⟨_,rfl⟩:=len1 h;exact rfl
  intro K_ hK_ F hF hFn;w_fin;refine sFld ok ?_ (by exact rfl);refine rNew ok (k:=1) (gkOf gl_Bank (by assumption) (by exact rfl) (by decide)) (by exact rfl) fn_306 (by decide) ?_;w_fin;intro b hb;refine Fn.useV (bank_init ok O1 hb) (by decide) ?_;rintro σ2 ⟨L2,O2,rfl,k2⟩;refine ⟨rfl,?_⟩;w_fin;have e2:L2 .d=d:=(k2 .d (by decide)).trans e1;refine ⟨_,_,_,0,rfl,by rw [<-e2];exact O2.get .d _ rfl,ff_520_bank,by decide,by decide,?_⟩;have O3:=Own.set O2 (g:=.d) (.flds 520 [.inst 306 (L2 .b)]) rfl;rw [e2] at O3;w_left;show WS _ _ _ _ _ (σ2.set d (.flds 520 [.inst 306 (L2 .b)])) _ _;generalize σ2.set d (.flds 520 [.inst 306 (L2 .b)])=σ3 at O3;w_fin;refine sFld ok ?_ (by exact rfl);refine rNew ok (k:=1) (gkOf gl_Unions (by assumption) (by exact rfl) (by decide)) (by exact rfl) fn_388 (by decide) ?_;w_fin;intro u hu;refine Fn.useV (QD ok O3 hu) (by decide) ?_;rintro σ4 ⟨L4,O4,rfl,k4⟩;refine ⟨rfl,?_⟩;w_fin;have e4:L4 .d=d:=(k4 .d (by decide)).trans e2;refine ⟨_,_,_,1,rfl,by rw [<-e4];exact O4.get .d _ rfl,ff_520_unions,by exact Nat.le_refl 1,by exact (by decide:1<=100),?_⟩;have O5:=Own.set O4 (g:=.d) (.flds 520 [.inst 306 (L2 .b),.inst 388 (L4 .u)]) rfl;rw [e4] at O5;w_left;show WS _ _ _ _ _ (σ4.set d (.flds 520 [.inst 306 (L2 .b),.inst 388 (L4 .u)])) _ _;generalize σ4.set d (.flds 520 [.inst 306 (L2 .b),.inst 388 (L4 .u)])=σ5 at O5;refine WT ok .d (c:=520) (a:=d) (by kst_mem) (i:=2) (its:=heapI) (.cons ff_520_edges vL (by exact rfl)<|.cons ff_520_forest vL (by exact rfl)<|.cons ff_520_known vTD (by exact rfl)<|.cons ff_520_above vD (by exact rfl)<|.cons ff_520_waiting vL (by exact rfl) .nil) O5 e4 rfl (by decide) (by decide) (by decide) rfl λL6 σ6 O6 k6=>?_;have b6:L6 .b=L2 .b:=(k6 .b (by decide)).trans (k4 .b (by decide));have u6:L6 .u=L4 .u:=k6 .u (by decide);have m1:=UU (L:=L2) (L':=L6) (its:=Wm) λit hi=>(k6 it.1 ((by decide:∀it∈Wm,it.1∉heapI.map Prod.fst) it hi)).trans (k4 it.1 ((by decide:∀it∈Wm,it.1∉G.u::Je.map Prod.fst) it hi));have m2:=UU (L:=L4) (L':=L6) (its:=Je) λit hi=>k6 it.1 ((by decide:∀it∈Je,it.1∉heapI.map Prod.fst) it hi);unfold newC at O6;rw [m1,m2,<-b6,<-u6] at O6;subst hC0;refine sNil (unK hK_ ⟨rfl,L6,O6.eq λg=>by cases g <;> rfl,(k6 .d (by decide)).trans e4,λg _ hc=>?_⟩);cases g with
  | x n=>
    have hx:∀l:List G,l.all notX=true->G.x n∉l:=λl hl q=>by have:=List.all_eq_true.mp hl _ q;cases this
    exact (k6 _ (hx _ rfl)).trans ((k4 _ (hx _ rfl)).trans ((k2 _ (hx _ rfl)).trans (k1 _ λq=>by cases q)))
  | _=>exact absurd rfl hc
end
set_option tactic.hygienic false
section
variable {w:World} {h0:Heap}
variable {σ:MH}
noncomputable def ops:List Str:=["a","b","c","f","g"]
theorem UW {op:Str} (h:op∈ops):∃c:Nat,op=⟨#[c]⟩/\c<128/\Txt.isspace ⟨#[c]⟩=false/\Txt.contains "()[]{},:" ⟨#[c]⟩=false/\((⟨#[c]⟩:Str) != "")=true/\((⟨#[c]⟩:Str)=="?")=false:=by
  simp only [ops,List.mem_cons,List.not_mem_nil,or_false] at h;rcases h with rfl | rfl | rfl | rfl | rfl
  · exact ⟨97,by rfl,by decide,by decide +kernel,by decide +kernel,by decide +kernel,by decide +kernel⟩
  · exact ⟨98,by rfl,by decide,by decide +kernel,by decide +kernel,by decide +kernel,by decide +kernel⟩
  · exact ⟨99,by rfl,by decide,by decide +kernel,by decide +kernel,by decide +kernel,by decide +kernel⟩
  · exact ⟨102,by rfl,by decide,by decide +kernel,by decide +kernel,by decide +kernel,by decide +kernel⟩
  · exact ⟨103,by rfl,by decide,by decide +kernel,by decide +kernel,by decide +kernel,by decide +kernel⟩
theorem is_op_ok (ok:SysOk (SS w h0)) {op:Str} (ho:op∈ops) :
    Fn (SS w h0) 1 (.ref 199) [.str op] σ (λm σ'=>σ'=σ/\m=.bool true):=by
  obtain ⟨c,rfl,h128,hsp,hin,hne,hq⟩:=UW ho;refine Fn.obs ?_;refine' Fn.introK (k:=0) (ps:=["text"]) ok ?h1 ?h2 ?h3 ?h4 ?h5 ?h6 ?h7 ?h8 ?h9 ?b ?h10 (ρ₀:=[("text",some (.str ⟨#[c]⟩))]) ?h11 ?h12
  case h1 | h3 | h4 | h5 | h6 | h7 | h8 | h9 | h11=>exact rfl
  case h2=>kernel_rfl
  case h10=>decide +kernel
  case b=>intro us h;obtain ⟨_,rfl⟩:=len1 h;exact rfl
  intro K_ hK_ F hF hFn;w_left;w_left;refine rAnd2 ?_;w_fin;refine p_nes ⟨_,rfl,λ_=>?_,λe=>?_⟩
  · w_left;refine WC (λo=>[(".0",none),("sign",o)]) (λ_=>by exact rfl) hF (by exact rfl) rfl (by exact rfl) (λ_ _=>UpdR.tail UpdR.head) (λFc h=>by show Fc.env.scope.names.lookup _=_;rw [h];exact rfl) (WIt.of ?_);w_fin;refine ⟨_,_,_,mk_str (by simpa using h128),rfl,by simp,λ_ _=>trivial,λ_=>false,id,?_,?_,λa ha=>?_⟩
    · intro Fc hFc hFn' v hv σ2 e;simp only [List.map_cons,List.map_nil,List.mem_singleton] at hv;subst hv;w_left;refine Xu ?_ (by exact rfl);refine W0 (id:="str.isspace") (by exact rfl) ?_ (by exact rfl);w_fin;refine ⟨getM_str PySem.F.slot_str_isspace (by exact rfl),?_⟩;w_fin;refine p_isspace ⟨_,rfl,?_⟩;rw [hsp,if_neg (by simp)];w_left;w_left;w_fin;refine p_instr ⟨_,rfl,?_⟩;rw [hin,if_neg (by simp)];exact tOr0 ⟨rfl,rfl⟩
    · intro Fc hFc hFn' v hv h2;cases h2
    · w_fin;refine ⟨by simp,λD hD=>?_⟩;refine p_eql (as:=[]) (bs:=[]) rfl rfl (ms1:=[]) (ms2:=[]) ?_ (MH.set_same ..) rfl rfl ?_
      · rw [MH.set_ne (λq=>by subst q;rw [MH.set_same] at hD;cases hD),MH.set_same];simp
      · exact unK hK_ ⟨(Ext.set ha).trans (Ext.set hD),rfl⟩
  · rw [hne] at e;cases e
end
set_option tactic.hygienic false
section
variable {w:World} {h0:Heap}
variable {σ:MH} {L:Lay} {h:HS} {l:Option LS} {ex:Nat->Option Zd}
theorem WI (ok:SysOk (SS w h0)) {d:Addr} {op:Str} (ho:op∈ops) :
    Fn (SS w h0) 2 (.ref 237) [.inst 306 d,.str op] σ (λm σ'=>σ'=σ/\m=.none):=by
  have hop:=is_op_ok (w:=w) (h0:=h0) (σ:=σ) ok ho;obtain ⟨c,rfl,h128,hsp,hin,hne,hq⟩:=UW ho;refine' Fn.introK (k:=1) (ps:=["self","op"]) ok ?h1 ?h2 ?h3 ?h4 ?h5 ?h6 ?h7 ?h8 ?h9 ?b ?h10 (ρ₀:=[("self",some (.inst 306 d)),("op",some (.str ⟨#[c]⟩))]) ?h11 ?h12
  case h1 | h3 | h4 | h5 | h6 | h7 | h8 | h9 | h11=>exact rfl
  case h2=>kernel_rfl
  case h10=>decide +kernel
  case b=>intro us h;obtain ⟨_,_,rfl⟩:=len2 h;exact rfl
  intro K_ hK_ F hF hFn;w_fin;refine Xu ?_ (by exact rfl);ktn_call gl_is_op kp_is_op;refine Fn.mono hop (by decide) ?_;rintro m σ' ⟨rfl,rfl⟩;refine ⟨_,rfl,?_⟩;refine ifN (by simp) ?_;w_left;w_fin;refine p_itemS (c:=c) rfl ?_ (by exact rfl);w_fin;refine p_eqs ⟨_,rfl,?_⟩;rw [show ((({ cps:=#[c] }:Str)==Str.ofString "?"))=false from hq,if_neg (by simp)];refine tOr0 ?_;refine ifN (by simp) ?_;w_fin;exact ⟨rfl,rfl⟩
structure BOk (h:HS):Prop where
  wl:h.wts.length=h.nodes.length
  dl:h.dps.length=h.nodes.length
  nd:h.nodes.Nodup
  small:h.nodes.length<60
theorem YT (op:Str) (kids:List Nat):V.tup ([V.str op]++Za kids)=.tup ((Zz (op,kids)).map V.ofKey):=by
  have:=YY (op,kids);unfold Zw at this;rw [this];rfl
theorem dput_td {l:List (Zp×Nat)} {nd:Zp} {i:Nat} (h:Xm l nd=none):YU (Yu l) (Zz nd) (.int i)=Yu (l++[(nd,i)]):=by
  unfold YU;rw [if_neg]
  · simp [Yu]
  · have:=Ji l nd;rw [h,Option.map_none] at this;unfold Yo at this;simp only [Option.map_eq_none_iff,List.find?_eq_none,decide_eq_true_eq] at this;simp only [List.any_eq_true,decide_eq_true_eq,not_exists,not_and];exact this
noncomputable def US (g:Nat->Int):V->V
  | .int j=>.int (g j.toNat)
  | v=>v
theorem Kq {g:Nat->Int} {j:Int}:US g (.int j)=.int (g j.toNat):=rfl
theorem KW (g:Nat->Int) (l:List Nat):(Za l).map (US g)=(l.map g).map V.int:=by
  unfold Za;rw [List.map_map,List.map_map];apply List.map_congr_left;intro x _;simp [Kq]
theorem bank_take (ok:SysOk (SS w h0)) (I:Inv σ L ⟨some h,l,ex⟩) (B:BOk h) {op:Str} {kids:List Nat} (ho:op∈ops) (hk:∀k∈kids,k<h.nodes.length) (hz:kids.length<=4) :
    Fn (SS w h0) 3 (.ref 230) [.inst 306 (L .b),.str op,.tup (Za kids)] σ (λm σ'=>(∃i:Nat,Xm h.nodes.zipIdx (op,kids)=some i/\m=.int i/\Inv σ' L ⟨some h,l,ex⟩)\/
      (Xm h.nodes.zipIdx (op,kids)=none/\m=.int h.nodes.length/\∃a b,Inv σ' L ⟨some { h with nodes:=h.nodes++[(op,kids)],wts:=h.wts++[a],dps:=h.dps++[b] },l,ex⟩)):=by
  have h60:=B.small;refine' Fn.introK (k:=2) (ps:=["self","op","kids"]) ok ?h1 ?h2 ?h3 ?h4 ?h5 ?h6 ?h7 ?h8 ?h9 ?b ?h10 (ρ₀:=[("self",some (.inst 306 (L .b))),("op",some (.str op)),("kids",some (.tup (Za kids))),("node",none),("kid",none)]) ?h11 ?h12
  case h1 | h3 | h4 | h5 | h6 | h7 | h8 | h9 | h11=>exact rfl
  case h2=>kernel_rfl
  case h10=>decide +kernel
  case b=>intro us h;obtain ⟨_,_,_,rfl⟩:=len3 h;exact rfl
  intro K_ hK_ F hF hFn;w_fin;refine ⟨by simp,?_⟩;tbr_iter XE;refine p_tupleT ?_;refine X4 (by simp [Za];lia) ?_;w_fin;refine p_inTD ok (k:=Zz (op,kids)) (YT op kids) I.nm ⟨_,rfl,?_⟩;rw [Ji];cases e:Xm h.nodes.zipIdx (op,kids) with
  | some i=>
    refine ifP (by simp) ?_;w_fin;refine p_itemTD (k:=Zz (op,kids)) (YT op kids) I.nm (by rw [Ji,e];rfl) ?_ (by exact rfl);w_fin;exact .inl ⟨i,e,rfl,I⟩
  | none=>
    refine ifN (by simp) ?_;ktf_call 2;refine Fn.useP (WI ok ho) (by decide) ?_;refine ⟨rfl,?_⟩;w_fin;refine Xq (λ_=>by exact rfl) (itT ?_);refine Jh ?_;w_fin;refine ⟨_,rfl,?_⟩;w_fin;refine ⟨1,rfl,by lia,by simp,by simp [Za];lia,_,rfl,.inr ⟨rfl,rfl⟩,λits ρ σ2=>E2 λrest o=>A4 ((∀k∈rest,k<h.nodes.length)) (its=Za rest) (σ2=σ) (ρ=([("self",some (.inst 306 (L .b))),("op",some (.str op)),("kids",some (.tup (Za kids))),("node",some (.tup ([.str op]++Za kids))),("kid",o)]:Rho)),⟨kids,none,hk,rfl,rfl,rfl⟩,λ_ _ _ _=>trivial,?_,?_⟩
    · rintro v its Kc hKc ρ σ2 ⟨rest,o,hr,e1,rfl,rfl⟩;cases rest with
      | nil=>simp [Za] at e1
      | cons j rest=>
        simp only [Za,List.map_cons,List.cons.injEq] at e1;obtain ⟨rfl,rfl⟩:=e1;have hj:=hr j List.mem_cons_self;refine ZC (UpdR.tail<|UpdR.tail<|UpdR.tail<|UpdR.tail UpdR.head) (.inl hFn) ?_;w_fin;refine tChain2 ?_ (by exact rfl);w_fin;refine p_le ⟨_,rfl,λe=>?_,λ_=>?_⟩
        · simp only [decide_eq_false_iff_not] at e;lia
        tbr_iter Z1;refine YG I.nl (by simp;lia) ?_;refine p_lt ⟨_,rfl,?_⟩;refine ifN (by simp;lia) ?_;w_fin;exact ⟨rest,_,λk hk=>hr k (List.mem_cons_of_mem _ hk),rfl,rfl,rfl⟩
    · rintro ρ σ2 ⟨rest,o,hr,e1,rfl,rfl⟩;w_fin;refine WN ?_ (by exact rfl);tbr_iter Z1;refine YG I.nl (by simp;lia) ?_;w_fin;refine p_setTD (k:=Zz (op,kids)) (YT op kids) I.nm (by simp [Yu];lia) ?_;rw [List.length_map,dput_td e];have O1:=Own.set I (g:=.nm) (.tdict (Yu (h.nodes.zipIdx++[((op,kids),h.nodes.length)]))) rfl;w_left;show WS _ _ _ _ _ (σ2.set (L .nm) (.tdict (Yu (h.nodes.zipIdx++[((op,kids),h.nodes.length)])))) _ _;generalize σ2.set (L .nm) (.tdict (Yu (h.nodes.zipIdx++[((op,kids),h.nodes.length)])))=σ3 at O1 ⊢;have b1:σ3 (L .b)=_:=O1.get .b _ rfl;have n1:σ3 (L .nl)=some (.list (h.nodes.map Zw)):=O1.get .nl _ rfl;w_left;w_left;tb_from PySem.F.slot_list_append;refine Z5 n1 (by simp;lia) ⟨rfl,?_⟩;have O2:=Own.set O1 (g:=.nl) (.list (h.nodes.map Zw++[.tup ([.str op]++Za kids)])) rfl;w_left;show WS _ _ _ _ _ (σ3.set (L .nl) (.list (h.nodes.map Zw++[.tup ([.str op]++Za kids)]))) _ _;generalize σ3.set (L .nl) (.list (h.nodes.map Zw++[.tup ([.str op]++Za kids)]))=σ4 at O2 ⊢;have b2:σ4 (L .b)=_:=O2.get .b _ rfl;have w2:σ4 (L .wl)=some (.list (h.wts.map .int)):=O2.get .wl _ rfl;w_left;w_left;tb_from PySem.F.slot_list_append;tbr_iter bt_sum;refine Jc (λo=>[(".0",none),("kid",o),("self",some (.inst 306 (L .b)))]) (λ_=>by exact rfl) hF (by exact rfl) rfl (by exact rfl) (λ_ _=>UpdR.tail UpdR.head) (λFc h=>by show Fc.env.scope.names.lookup _=_;rw [h];exact rfl) (itT (Jh ?_));w_fin;refine ⟨_,rfl,?_⟩;w_fin;refine ⟨1,rfl,by lia,by simp,by simp [Za];lia,Za kids,rfl,rfl,by simp [Za];lia,λ_ _=>trivial,US (λk=>h.wts.getD k 0),?_,λa ha=>?_⟩
      · intro Fc hFc hFn' v hv σ5 e5;obtain ⟨kk,hkk,rfl⟩:=Yi hv;have hk':=hk kk hkk;have b3:=e5 _ _ b2;have w3:=e5 _ _ w2;w_fin;refine ZX w3 (by lia) (by lia) (v:=.int (h.wts.getD kk 0)) ?_ ⟨rfl,by simp [Kq]⟩ (by exact rfl);have:kk<h.wts.length:=by rw [B.wl];exact hk'
        simp [List.getD,this]
      rw [KW];w_fin;refine p_sum (MH.set_same ..) rfl λwsum=>?_;refine Jp ?_;w_fin;have b2':=(Ext.set (mo:=.list ((kids.map λk=>h.wts.getD k 0).map V.int)) ha) _ _ b2;have w2':=(Ext.set (mo:=.list ((kids.map λk=>h.wts.getD k 0).map V.int)) ha) _ _ w2;have O3:=Own.garb (o:=.list ((kids.map λk=>h.wts.getD k 0).map V.int)) O2 ha;generalize σ4.set a (.list ((kids.map λk=>h.wts.getD k 0).map V.int))=σ5 at b2' w2' O3 ⊢;refine Z5 w2' (by have:=B.wl;simp;lia) ⟨rfl,?_⟩;have O4:=Own.set O3 (g:=.wl) (.list (h.wts.map .int++[.int (1+wsum)])) rfl;w_left;show WS _ _ _ _ _ (σ5.set (L .wl) (.list (h.wts.map .int++[.int (1+wsum)]))) _ _;generalize σ5.set (L .wl) (.list (h.wts.map .int++[.int (1+wsum)]))=σ6 at O4 ⊢;have b4:σ6 (L .b)=_:=O4.get .b _ rfl;have w4:σ6 (L .dl)=some (.list (h.dps.map .int)):=O4.get .dl _ rfl;w_left;w_left;tb_from PySem.F.slot_list_append;tbr_iter Uk;refine Jc (λo=>[(".0",none),("kid",o),("self",some (.inst 306 (L .b)))]) (λ_=>by exact rfl) hF (by exact rfl) rfl (by exact rfl) (λ_ _=>UpdR.tail UpdR.head) (λFc h=>by show Fc.env.scope.names.lookup _=_;rw [h];exact rfl) (itT (Jh ?_));w_fin;refine ⟨_,rfl,?_⟩;w_fin;refine ⟨1,rfl,by lia,by simp,by simp [Za];lia,Za kids,rfl,rfl,by simp [Za];lia,λ_ _=>trivial,US (λk=>h.dps.getD k 0),?_,λa2 ha2=>?_⟩
      · intro Fc hFc hFn' v hv σ5 e5;obtain ⟨kk,hkk,rfl⟩:=Yi hv;have hk':=hk kk hkk;have b3:=e5 _ _ b4;have w3:=e5 _ _ w4;w_fin;refine ZX w3 (by lia) (by lia) (v:=.int (h.dps.getD kk 0)) ?_ ⟨rfl,by simp [Kq]⟩ (by exact rfl);have:kk<h.dps.length:=by rw [B.dl];exact hk'
        simp [List.getD,this]
      rw [KW];w_fin;refine ⟨by simp,λD hD=>?_⟩;refine p_addL (ms:=(kids.map λk=>h.dps.getD k 0).map V.int) (ms2:=[.int 0]) ?_ (MH.set_same ..) (by simp;lia) λD2 hD2=>?_
      · rw [MH.set_ne (λq=>by subst q;rw [MH.set_same] at hD;cases hD),MH.set_same]
      w_fin;refine p_maxL (is:=(kids.map λk=>h.dps.getD k 0)++[0]) (MH.set_same ..) (by simp) (by simp) λwmax _ _=>?_;refine Jp ?_;w_fin;have E6:Ext σ6 (((σ6.set a2 (.list ((kids.map λk=>h.dps.getD k 0).map V.int))).set D (.list [.int 0])).set D2 (.list ((kids.map λk=>h.dps.getD k 0).map V.int++[.int 0]))):=(Ext.set ha2).trans ((Ext.set hD).trans (Ext.set hD2));have w5:=E6 _ _ w4;have O5:=O4.ext E6;generalize ((σ6.set a2 (.list ((kids.map λk=>h.dps.getD k 0).map V.int))).set D (.list [.int 0])).set D2 (.list ((kids.map λk=>h.dps.getD k 0).map V.int++[.int 0]))=σ7 at w5 O5 ⊢;refine Z5 w5 (by have:=B.dl;simp;lia) ⟨rfl,?_⟩;have O6:=Own.set O5 (g:=.dl) (.list (h.dps.map .int++[.int (1+wmax)])) rfl;w_left;show WS _ _ _ _ _ (σ7.set (L .dl) (.list (h.dps.map .int++[.int (1+wmax)]))) _ _;generalize σ7.set (L .dl) (.list (h.dps.map .int++[.int (1+wmax)]))=σ8 at O6 ⊢;have b6:σ8 (L .b)=_:=O6.get .b _ rfl;have n6:σ8 (L .nl)=some (.list (h.nodes.map Zw++[.tup ([.str op]++Za kids)])):=O6.get .nl _ rfl;w_fin;tbr_iter Z1;refine YG n6 (by simp;lia) ?_;w_fin;refine Q2 ?_;w_fin;refine .inr ⟨e,by simp [Q8],wsum+1,1+wmax,O6.eq λg=>?_⟩;cases g <;> first | rfl | simp [c_nl,c_nm,c_wl,c_dl,upd,YY,List.zipIdx_append,Int.add_comm]
end
set_option tactic.hygienic false
section
variable {w:World} {h0:Heap}
variable {σ:MH} {L:Lay} {h:HS} {l:Option LS} {ex:Nat->Option Zd}
theorem Ui (ok:SysOk (SS w h0)) (I:Inv σ L ⟨some h,l,ex⟩) (hz:h.ab.length<60) (hz2:h.lots.length<60) :
    Fn (SS w h0) 1 (.ref 331) [.inst 388 (L .u)] σ (λm σ'=>m=.int h.ab.length/\∃L',Inv σ' L' ⟨some { h with ab:=h.ab++[h.ab.length],lots:=h.lots++[[.int h.lots.length]] },l,ex⟩/\∀g,g≠.lot h.lots.length->L' g=L g):=by
  refine' Fn.introK (k:=0) (ps:=["self"]) ok ?h1 ?h2 ?h3 ?h4 ?h5 ?h6 ?h7 ?h8 ?h9 ?b ?h10 (ρ₀:=[("self",some (.inst 388 (L .u)))]) ?h11 ?h12
  case h1 | h3 | h4 | h5 | h6 | h7 | h8 | h9 | h11=>exact rfl
  case h2=>kernel_rfl
  case h10=>decide +kernel
  case b=>intro us h;obtain ⟨_,rfl⟩:=len1 h;exact rfl
  intro K_ hK_ F hF hFn;w_left;w_left;tb_from PySem.F.slot_list_append;tbr_iter Z1;refine YG I.ab (by simp [Za];lia) ?_;w_fin;refine Z5 I.ab (by simp [Za];lia) ⟨rfl,?_⟩;have O1:=Own.set I (g:=.ab) (.list (Za h.ab++[.int (Za h.ab).length])) rfl;w_left;show WS _ _ _ _ _ (σ.set (L .ab) (.list (Za h.ab++[.int (Za h.ab).length]))) _ _;generalize σ.set (L .ab) (.list (Za h.ab++[.int (Za h.ab).length]))=σ1 at O1 ⊢;have u1:σ1 (L .u)=_:=O1.get .u _ rfl;have l1:σ1 (L .lt)=_:=O1.get .lt _ rfl;have dead:Z3 L ⟨some h,l,ex⟩ (.lot h.lots.length)=none:=by show (h.lots[h.lots.length]?).map _=none;rw [List.getElem?_eq_none (Nat.le_refl _)];rfl
  w_left;w_left;tb_from PySem.F.slot_list_append;tbr_iter Z1;refine YG l1 (by simp;lia) ?_;w_fin;refine ⟨by exact (by decide:1<=1000),λD hD=>?_⟩;have O2:=Own.new O1 hD (.lot h.lots.length) (.list [.int h.lots.length]);have e2:∀g,g≠.lot h.lots.length->upd L (.lot h.lots.length) D g=L g:=λg=>Zk;have d2:D=upd L (.lot h.lots.length) D (.lot h.lots.length):=(Zn ..).symm;have l2:=(Ext.set (mo:=.list [.int h.lots.length]) hD) _ _ l1;rw [<-Uo D dead (gne rfl)] at O2;generalize upd L (.lot h.lots.length) D=L2 at O2 e2 d2;rw [<-e2 .lt (gne rfl)] at l2 ⊢;rw [<-e2 .u (gne rfl)];rw [List.length_map,List.length_range];generalize σ1.set D (.list [.int h.lots.length])=σ2 at O2 l2 ⊢;have O3:=Own.set O2 (g:=.lt) (.list (((List.range h.lots.length).map λi=>V.ref (L (.lot i)))++[.ref D])) rfl;w_fin;refine Z5 l2 (by simp;lia) ⟨rfl,?_⟩;w_left;show WS _ _ _ _ _ (σ2.set (L2 .lt) (.list (((List.range h.lots.length).map λi=>V.ref (L (.lot i)))++[.ref D]))) _ _;generalize σ2.set (L2 .lt) (.list (((List.range h.lots.length).map λi=>V.ref (L (.lot i)))++[.ref D]))=σ3 at O3 ⊢;have u3:σ3 (L2 .u)=_:=O3.get .u _ rfl;have a3:σ3 (L2 .ab)=some (.list (Za h.ab++[.int (Za h.ab).length])):=O3.get .ab _ rfl;w_fin;tbr_iter Z1;refine YG a3 (by simp [Za];lia) ?_;w_fin;refine Q2 (unK hK_ ⟨by simp [Q8,Za],L2,O3.eq λg=>?_,e2⟩);cases g with
  | lt=>
    show some (Zd.list _)=some (Zd.list _);rw [List.length_append,List.length_singleton,List.range_succ,List.map_append,List.map_cons,List.map_nil,<-d2];exact congrArg (λl=>some (Zd.list (l++_))) (List.map_congr_left λi hi=>by rw [e2 _ (by simp at hi;simp;lia)])
  | lot j=>
    by_cases q:j=h.lots.length
    · subst q;show (Option.map _ (h.lots++[_])[h.lots.length]?)=_;rw [List.getElem?_concat_length];exact (Zn ..).symm
    · refine Eq.trans ?_ (Zk (f:=upd (Z3 L2 ⟨some h,l,ex⟩) .ab (some (.list (Za h.ab++[.int (Za h.ab).length])))) (g:=.lot h.lots.length) λe=>q (G.lot.inj e)).symm;show Option.map _ ((h.lots++[_])[j]?)=Option.map _ (h.lots[j]?);refine congrArg _ ?_;rw [List.getElem?_append];(set_option tactic.hygienic true in split)
      · rfl
      · rw [List.getElem?_eq_none_iff.mpr (by simp;lia),List.getElem?_eq_none_iff.mpr (by lia)]
  | ab=>show some (Zd.list _)=some (Zd.list _);simp [Za]
  | _=>rfl
end
set_option tactic.hygienic false
section
variable {w:World} {h0:Heap}
variable {σ:MH} {L:Lay} {h:HS} {l:Option LS} {ex:Nat->Option Zd}
theorem heap_node (ok:SysOk (SS w h0)) (I:Inv σ L ⟨some h,l,ex⟩) (H:HOk h) {i:Nat} {nd:Zp} (hn:h.nodes[i]?=some nd) :
    Fn (SS w h0) 3 (.ref 418) [.inst 520 (L .d),.int i] σ (λm σ'=>σ'=σ/\m=.tup ((Zz (nd.1,nd.2.map (root h.ab))).map V.ofKey)):=by
  obtain ⟨hk4,hkids⟩:=H.kids i nd hn;refine Fn.obs ?_;refine' Fn.introK (k:=2) (ps:=["self","n"]) ok ?h1 ?h2 ?h3 ?h4 ?h5 ?h6 ?h7 ?h8 ?h9 ?b ?h10 (ρ₀:=[("self",some (.inst 520 (L .d))),("n",some (.int i))]) ?h11 ?h12
  case h1 | h3 | h4 | h5 | h6 | h7 | h8 | h9 | h11=>exact rfl
  case h2=>kernel_rfl
  case h10=>decide +kernel
  case b=>intro us h;obtain ⟨_,_,rfl⟩:=len2 h;exact rfl
  intro K_ hK_ F hF hFn;ktf_call 1;refine Fn.useP (Q3 ok I H.small hn) (by decide) ?_;w_fin;refine ⟨by simp,?_⟩;tbr_iter XE;refine Jc (λo=>[(".0",none),("kid",o),("self",some (.inst 520 (L .d)))]) (λ_=>by exact rfl) hF (by exact rfl) rfl (by exact rfl) (λ_ _=>UpdR.tail UpdR.head) (λFc h=>by show Fc.env.scope.names.lookup _=_;rw [h];exact rfl) (itT ?_);ktf_call 1;refine Fn.useP (Vj ok I H.small hn hk4) (by decide) ?_;refine ⟨_,rfl,rfl,by simp [Za];lia,λ_ _=>trivial,Xo (root h.ab),?_,λa ha=>?_⟩
  · intro Fc hFc hFn' v hv σ2 e;obtain ⟨kk,hkk,rfl⟩:=Yi hv;have I4:=I.ext e;ktf_call 2;refine Fn.useP (Xg ok I4 H (hkids kk hkk)) (by decide) ?_;exact ⟨rfl,by simp [XH]⟩
  rw [Yv];w_fin;refine X9 (MH.set_same ..) (by simp [Za];lia) ?_;refine X4 (by simp [Za];lia) (unK hK_ ⟨Ext.set ha,?_⟩);exact YT nd.1 _
theorem Qx (ok:SysOk (SS w h0)) (I:Inv σ L ⟨some h,l,ex⟩) (H:HOk h) (hz:h.known.length<=1000) {i:Nat} {nd:Zp} (hn:h.nodes[i]?=some nd) (hg:Xm h.known (nd.1,nd.2.map (root h.ab))=none) :
    Fn (SS w h0) 4 (.ref 435) [.inst 520 (L .d),.int i] σ (λm σ'=>m=.none/\Inv σ' L ⟨some { h with known:=h.known++[((nd.1,nd.2.map (root h.ab)),i)] },l,ex⟩):=by
  have hi:i<h.nodes.length:=(List.getElem?_eq_some_iff.mp hn).1;refine' Fn.introK (k:=3) (ps:=["self","n"]) ok ?h1 ?h2 ?h3 ?h4 ?h5 ?h6 ?h7 ?h8 ?h9 ?b ?h10 (ρ₀:=[("self",some (.inst 520 (L .d))),("n",some (.int i)),("other",none)]) ?h11 ?h12
  case h1 | h3 | h4 | h5 | h6 | h7 | h8 | h9 | h11=>exact rfl
  case h2=>kernel_rfl
  case h10=>decide +kernel
  case b=>intro us h;obtain ⟨_,_,rfl⟩:=len2 h;exact rfl
  intro K_ hK_ F hF hFn;w_left;w_left;tb_from PySem.F.slot_dict_setdefault;ktf_call 3;refine Fn.useP (heap_node ok I H hn) (by decide) ?_;w_fin;refine JL ok (k:=Zz (nd.1,nd.2.map (root h.ab))) rfl I.kn (by simp [Yu];lia) (λu hu=>?_) (λhu=>?_)
  · rw [Ji,hg] at hu;cases hu
  have O1:=Own.set I (g:=.kn) (.tdict (Yu (h.known++[((nd.1,nd.2.map (root h.ab)),i)]))) rfl;have I1:Inv (σ.set (L .kn) (.tdict (Yu h.known++[(Zz (nd.1,nd.2.map (root h.ab)),.int i)]))) L ⟨some { h with known:=h.known++[((nd.1,nd.2.map (root h.ab)),i)] },l,ex⟩:=by
    have e:Yu h.known++[(Zz (nd.1,nd.2.map (root h.ab)),V.int i)]=Yu (h.known++[((nd.1,nd.2.map (root h.ab)),i)]):=by simp [Yu]
    rw [e];refine O1.eq λg=>?_;cases g <;> first | rfl | simp [c_kn,upd]
  generalize σ.set (L .kn) (.tdict (Yu h.known++[(Zz (nd.1,nd.2.map (root h.ab)),.int i)]))=σ1 at I1 ⊢;have H1:HOk { h with known:=h.known++[((nd.1,nd.2.map (root h.ab)),i)] }:=⟨H.up,H.len,H.small,H.kids⟩;w_fin;ktf_call 2;refine Fn.useP (Xg ok I1 H1 hi) (by decide) ?_;ktf_call 2;refine Fn.useP (Xg ok I1 H1 hi) (by decide) ?_;refine Vh ⟨_,rfl,?_⟩;refine ifN (by simp) ?_;w_fin;exact ⟨rfl,I1⟩
end
set_option tactic.hygienic false
section
variable {w:World} {h0:Heap}
variable {σ:MH} {L:Lay} {h:HS} {l:Option LS} {ex:Nat->Option Zd}
theorem HOk.congr {h h':HS} (H:HOk h) (e1:h'.nodes=h.nodes) (e2:h'.ab=h.ab):HOk h':=
  ⟨by rw [e2];exact H.up,by rw [e1,e2];exact H.len,by rw [e1];exact H.small,by rw [e1];exact H.kids⟩
theorem dputN_new {β:Type} {ls:List (Nat×β)} {f:Nat×β->V} {i:Nat} {v:V} (h:Zb ls i=none):YU (ls.map λp=>((Sum.inr (p.1:Int):Key),f p)) (.inr (i:Int)) v=(ls.map λp=>((Sum.inr (p.1:Int):Key),f p))++[(.inr (i:Int),v)]:=by
  unfold YU;rw [if_neg];rw [Ym] at h;simp only [List.any_map,List.any_eq_true,Function.comp,decide_eq_true_eq,Sum.inr.injEq,not_exists,not_and];intro p hp e;exact h p hp (by lia)
theorem av_get (us:WV) (L:Lay) (i:Nat):Yo (us.map λp=>((Sum.inr (p.1:Int):Key),V.ref (L (.use p.1)))) (.inr (i:Int))=(Zb us i).map λ_=>.ref (L (.use i)):=by
  rw [X0 (γ:=Nat)];cases e:Zb us i with
  | none=>unfold Zb at e;simp at e;simp;exact e
  | some x=>rw [(ZP e).2];rfl
theorem mem_sum {β:Type} {g:β->Nat}:∀{l:List β} {p:β},p∈l->g p<=(l.map g).sum:=λ{l}=>by
  induction l with
  | nil=>intro p h;cases h
  | cons q r ih=>
    intro p h;simp only [List.map_cons,List.sum_cons];rcases List.mem_cons.mp h with rfl | h
    · lia
    · have:=ih h;lia
theorem Q4 (ok:SysOk (SS w h0)) (I:Inv σ L ⟨some h,l,ex⟩) (H:H1 h) (hs:h.nodes.length<60) {op:Str} {kids:List Nat} (ho:op∈ops) (hk:∀k∈kids,k<h.nodes.length) (hz:kids.length<=4) (h100:ex 100=none) :
    Fn (SS w h0) 5 (.ref 423) [.inst 520 (L .d),.str op,.tup (Za kids)] σ (λm σ'=>(∃i:Nat,h.nodes[i]?=some (op,kids)/\m=.int i/\Inv σ' L ⟨some h,l,ex⟩)\/
      ((op,kids)∉h.nodes/\m=.int h.nodes.length/\∃L' h',Inv σ' L' ⟨some h',l,ex⟩/\Z4 ⟨some h,l,ex⟩ L L'/\H1 h'/\h'.nodes=h.nodes++[(op,kids)])):=by
  refine' Fn.introK (k:=4) (ps:=["self","op","numbers"]) ok ?h1 ?h2 ?h3 ?h4 ?h5 ?h6 ?h7 ?h8 ?h9 ?b ?h10 (ρ₀:=[("self",some (.inst 520 (L .d))),("op",some (.str op)),("numbers",some (.tup (Za kids))),("n",none),("c",none)]) ?h11 ?h12
  case h1 | h3 | h4 | h5 | h6 | h7 | h8 | h9 | h11=>exact rfl
  case h2=>kernel_rfl
  case h10=>decide +kernel
  case b=>intro us h;obtain ⟨_,_,_,rfl⟩:=len3 h;exact rfl
  intro K_ hK_ F hF hFn;ktf_call 3;refine Fn.mono (bank_take ok I ⟨H.wl,H.dl,H.nd,hs⟩ ho hk hz) (by decide) ?_;have hab:h.ab.length=h.nodes.length:=by rw [H.ab];simp
  rintro m σ' (⟨i,hi,rfl,I1⟩ | ⟨hg,rfl,a,b,I1⟩)
  · have hi':=(Ua.1 i hi).1;rw [Nat.sub_zero] at hi';have hlt:=(List.getElem?_eq_some_iff.mp hi').1;w_fin;ktf_call 1;refine Fn.useP (JH ok I1 (by lia)) (by decide) ?_;refine p_lt ⟨_,rfl,?_⟩;refine ifP (by simp;lia) ?_;w_fin;exact .inl ⟨i,hi',rfl,I1⟩
  have hnew:=Ua.2 hg;w_fin;ktf_call 1;refine Fn.useP (JH ok I1 (by simp only;lia)) (by decide) ?_;refine p_lt ⟨_,rfl,?_⟩;refine ifN (by simp;lia) ?_;w_left;w_left;w_left;ktf_call 1;refine Fn.useV (Ui ok I1 (by simp only;lia) (by have:=H.lots;simp only;lia)) (by decide) ?_;rintro σ3 ⟨L3,I3,e3⟩;refine ⟨rfl,?_⟩;simp only at I3 e3;rw [<-e3 .d (gne rfl)];w_fin;refine WN ?_ (by exact rfl);w_left;w_left;refine ⟨by simp,λD hD=>?_⟩;w_fin;have hun:=H.unkeyed;have hul:h.uses.length=h.nodes.length:=by have:=congrArg List.length H.keys;simpa using this
  refine X8 (k:=.inr (h.nodes.length:Int)) rfl (Inv.garb I3 hD).av (by simp;lia) ?_;rw [dputN_new (f:=λp=>V.ref (L3 (.use p.1))) hun];obtain ⟨L4,I4,e4⟩:∃L4:Lay,Inv ((σ3.set D (.list [])).set (L3 .av) (.dict ((h.uses.map λp=>((Sum.inr (p.1:Int):Key),V.ref (L3 (.use p.1))))++[(.inr (h.nodes.length:Int),.ref D)]))) L4
      ⟨some { h with nodes:=h.nodes++[(op,kids)],wts:=h.wts++[a],dps:=h.dps++[b],ab:=h.ab++[h.ab.length],lots:=h.lots++[[.int h.lots.length]],uses:=h.uses++[(h.nodes.length,[])] },l,ex⟩/\∀g,g≠.use h.nodes.length->L4 g=L3 g:=
    ⟨_,I3.newUse hun hD,λg hg=>Zk hg⟩
  w_left;show WS _ _ _ _ _ ((σ3.set D (.list [])).set (L3 .av) (.dict ((h.uses.map λp=>((Sum.inr (p.1:Int):Key),V.ref (L3 (.use p.1))))++[(.inr (h.nodes.length:Int),.ref D)]))) _ _;generalize (σ3.set D (.list [])).set (L3 .av) (.dict ((h.uses.map λp=>((Sum.inr (p.1:Int):Key),V.ref (L3 (.use p.1))))++[(.inr (h.nodes.length:Int),.ref D)]))=σ4 at I4 ⊢;rw [<-e4 .d (gne rfl)];have YW:Z4 ⟨some h,l,ex⟩ L L4:=λg hg _=>by rw [e4 g (λe=>by subst e;cases hg),e3 g (λe=>by subst e;cases hg)]
  have HH:∀cs:List Nat,(∀c,c∈cs ↔ c∈kids)->H1 { h with nodes:=h.nodes++[(op,kids)],wts:=h.wts++[a],dps:=h.dps++[b],ab:=h.ab++[h.ab.length],lots:=h.lots++[[.int h.lots.length]],known:=h.known++[((op,kids),h.nodes.length)],uses:=Yq (h.uses++[(h.nodes.length,[])]) cs h.nodes.length }:=λcs hc=>H.add hs (nd:=(op,kids)) hk hz hnew hc a b _ (Nat.le_refl 1);have Hok:=(HH kids λ_=>Iff.rfl).ok;have Hrt:=(HH kids λ_=>Iff.rfl).root;w_fin;refine Xq (λ_=>by exact rfl) (itL ?_);tbr_iter XA;tbr_iter Uw;refine Jc (λo=>[(".0",none),("kid",o),("self",some (.inst 520 (L4 .d)))]) (λ_=>by exact rfl) hF (by exact rfl) rfl (by exact rfl) (λ_ _=>UpdR.tail UpdR.head) (λFc h=>by show Fc.env.scope.names.lookup _=_;rw [h];exact rfl) (itT ?_);w_fin;refine ⟨_,rfl,rfl,by simp [Za];lia,λ_ _=>trivial,Xo λx=>x,?_,λa2 ha2=>?_⟩
  · intro Fc hFc hFn' v hv σ5 e5;obtain ⟨kk,hkk,rfl⟩:=Yi hv;have hkk':=hk kk hkk;have I5:=I4.ext e5;ktf_call 2;refine Fn.useP (Xg ok I5 (Hok.congr rfl rfl) (a:=kk) (by simp;lia)) (by decide) ?_;exact ⟨rfl,by simp only at Hrt;rw [Hrt];simp [XH]⟩
  rw [Yv,List.map_id'];w_fin;refine p_set (is:=kids.map λ(i:Nat)=>(i:Int)) (MH.set_same ..) (by simp [Za,List.map_map,Function.comp_def]) (by simp;lia) ?_;intro D2 hD2;w_fin;refine Ko (MH.set_same ..) (by simp;lia) ?_;intro D3 js hD3 nd3 hm3 srt3;have hpos:∀k∈js,0<=k:=λk hk=>by
    have:=(hm3 k).1 hk;simp only [List.mem_map] at this;obtain ⟨i,_,rfl⟩:=this;lia
  have E4:Ext σ4 ((σ4.set a2 (.list (Za kids))).set D2 (.set (kids.map λ(i:Nat)=>(i:Int)))):=(Ext.set ha2).trans (Ext.set hD2);have I5:=I4.ext E4;generalize (σ4.set a2 (.list (Za kids))).set D2 (.set (kids.map λ(i:Nat)=>(i:Int)))=σ5 at I5 hD3 ⊢;rw [ints_nats hpos];generalize hcs:js.map Int.toNat=cs;have hc:∀c,c∈cs ↔ c∈kids:=λc=>by
    rw [<-hcs];simp only [List.mem_map];constructor
    · rintro ⟨k,hk,rfl⟩;have:=(hm3 k).1 hk;simp only [List.mem_map] at this;obtain ⟨i,hi,rfl⟩:=this;simpa using hi
    · intro h;exact ⟨(c:Int),(hm3 _).2 (List.mem_map_of_mem h),by simp⟩
  have hcn:cs.Nodup:=by
    rw [<-hcs];refine List.pairwise_map.2 (nd3.imp_of_mem λ{x y} hx hy hne e=>hne ?_);have:=hpos x hx;have:=hpos y hy;lia
  obtain ⟨L6,I6,eD,eL,back⟩:=I5.openX hD3 100 h100 (.list (Za cs));subst eD;rw [<-eL .d (gne rfl)];refine ⟨L6 (.x 100),_,rfl,MH.set_same ..,.inr ⟨rfl,rfl⟩,λits ρ σ6=>E3 λpre rest o=>A4 (cs=pre++rest) (its=Za rest) (ρ=([("self",some (.inst 520 (L6 .d))),("op",some (.str op)),("numbers",some (.tup (Za kids))),("n",some (.int h.nodes.length)),("c",o)]:Rho)) (Inv σ6 L6 ⟨some { h with nodes:=h.nodes++[(op,kids)],wts:=h.wts++[a],dps:=h.dps++[b],ab:=h.ab++[h.ab.length],lots:=h.lots++[[.int h.lots.length]],uses:=Yq (h.uses++[(h.nodes.length,[])]) pre h.nodes.length },l,exS ex 100 (some (.list (Za cs)))⟩),
    ⟨[],cs,none,rfl,rfl,rfl,by rw [pushU_nil];exact I6⟩,?_,?_,?_⟩
  · rintro its ρ σ6 ⟨pre,rest,o,_,_,_,I7⟩;exact I7.x'
  · rintro v its Kc hKc ρ σ6 ⟨pre,rest,o,hp,e1,rfl,I7⟩;cases rest with
    | nil=>simp [Za] at e1
    | cons c rest=>
      simp only [Za,List.map_cons,List.cons.injEq] at e1;obtain ⟨rfl,rfl⟩:=e1;have hck:c<h.nodes.length:=hk c ((hc c).1 (by rw [hp];simp));obtain ⟨us0,hus0⟩:=H.keyed hck;have hcp:c∉pre:=by
        rw [hp] at hcn;intro h;exact (List.nodup_append.mp hcn).2.2 c h c List.mem_cons_self rfl
      obtain ⟨us,hus⟩:∃us,Zb (Yq (h.uses++[(h.nodes.length,[])]) pre h.nodes.length) c=some us:=by
        rw [Jw,Yx,hus0];exact ⟨_,rfl⟩
      have hul2:us.length<=100000:=by
        have h1:=mem_sum (g:=λp:Nat×List Nat=>p.2.length) (ZP hus).1;have h2:=Wc (h.uses++[(h.nodes.length,[])]) pre h.nodes.length;have h3:=H.usesLen;have h4:h.nodes.length * h.nodes.length<=60 * 60:=Nat.mul_le_mul (by lia) (by lia);simp only [List.map_append,List.sum_append,List.map_cons,List.map_nil,List.length_nil,List.sum_cons,List.sum_nil,Nat.add_zero,List.length_append,List.length_singleton] at h1 h2;lia
      refine ZC (UpdR.tail<|UpdR.tail<|UpdR.tail<|UpdR.tail UpdR.head) (.inl hFn) ?_;w_left;w_left;refine fMList PySem.F.slot_list_append (by exact rfl) (by exact rfl) ?_ (by exact rfl);w_fin;refine Yc (k:=.inr (c:Int)) rfl I7.av (by rw [av_get];simp only;rw [hus];rfl) ?_ (by exact rfl);refine ⟨_,_,rfl,I7.use hus,?_⟩;w_fin;refine Z5 (I7.use hus) (by simp [Za];lia) ⟨rfl,?_⟩;w_fin;have I8:=I7.setUse (n:=h.nodes.length) hus;simp only at I8;rw [Un _ hcp] at I8;exact ⟨pre++[c],rest,_,by rw [hp];simp,rfl,rfl,I8⟩
  · rintro ρ σ6 ⟨pre,rest,o,hp,e1,rfl,I7⟩;have:rest=[]:=by cases rest with
      | nil=>rfl
      | cons _ _=>simp [Za] at e1
    subst this;rw [List.append_nil] at hp;subst hp;have I8:=back _ _ _ _ I7;rw [eL .d (gne rfl)];simp only at Hrt;ktf_call 4;refine Fn.mono (Qx ok I8 (Hok.congr rfl rfl) (i:=h.nodes.length) (nd:=(op,kids)) ?_ ?_ ?_) (by decide) ?_
    · simp only;rw [H.known];simp;lia
    · simp
    · simp only;rw [Hrt,H.known];simpa using hg
    · rintro m σ7 ⟨rfl,I9⟩;refine ⟨rfl,?_⟩;simp only [Hrt,List.map_id'] at I9;w_fin;exact .inr ⟨hnew,rfl,L4,_,I9,YW,HH cs hc,rfl⟩
end
set_option tactic.hygienic false
section
variable {w:World} {h0:Heap}
variable {σ:MH} {L:Lay} {h:HS} {l:Option LS} {ex:Nat->Option Zd}
theorem VS (ok:SysOk (SS w h0)) (I:Inv σ L ⟨some h,l,ex⟩) (H:H1 h) (hs:h.nodes.length<60) {op:Str} (ho:op∈ops) (h100:ex 100=none) :
    Fn (SS w h0) 6 (.ref 428) [.inst 520 (L .d),.tup [.str op]] σ (λm σ'=>(∃i:Nat,h.nodes[i]?=some (op,[])/\m=.int i/\Inv σ' L ⟨some h,l,ex⟩)\/
      ((op,[])∉h.nodes/\m=.int h.nodes.length/\∃L' h',Inv σ' L' ⟨some h',l,ex⟩/\Z4 ⟨some h,l,ex⟩ L L'/\H1 h'/\h'.nodes=h.nodes++[(op,[])])):=by
  refine' Fn.introK (k:=5) (ps:=["self","term"]) ok ?h1 ?h2 ?h3 ?h4 ?h5 ?h6 ?h7 ?h8 ?h9 ?b ?h10 (ρ₀:=[("self",some (.inst 520 (L .d))),("term",some (.tup [.str op]))]) ?h11 ?h12
  case h1 | h3 | h4 | h5 | h6 | h7 | h8 | h9 | h11=>exact rfl
  case h2=>kernel_rfl
  case h10=>decide +kernel
  case b=>intro us h;obtain ⟨_,_,rfl⟩:=len2 h;exact rfl
  intro K_ hK_ F hF hFn;ktf_call 5;refine KS (by lia) (by lia) (v:=.str op) (by rfl) ?_ (by exact rfl);tbr_iter XE;refine Jc (λo=>[(".0",none),("part",o),("self",some (.inst 520 (L .d)))]) (λ_=>by exact rfl) hF (by exact rfl) rfl (by exact rfl) (λ_ _=>UpdR.tail UpdR.head) (λFc h=>by show Fc.env.scope.names.lookup _=_;rw [h];exact rfl) (itT (Jh ?_));w_fin;refine ⟨_,rfl,?_⟩;w_fin;refine ⟨1,rfl,by lia,by simp,by simp,[],rfl,rfl,by simp,λ_ _=>trivial,id,λ_ _ _ x hx=>by simp at hx,λa ha=>?_⟩;w_fin;refine X9 (MH.set_same ..) (by simp) ?_;refine ZD.drop (Ext.set ha) ?_;w_fin;exact (Q4 ok I H hs ho (kids:=[]) (by simp) (by simp) h100).toK hK_
theorem WH (ok:SysOk (SS w h0)) (I:Inv σ L ⟨some h,l,ex⟩) (hw:h.waits=[]) :
    Fn (SS w h0) 7 (.ref 470) [.inst 520 (L .d)] σ (λm σ'=>m=.none/\σ'=σ):=by
  refine' Fn.introK (k:=6) (ps:=["self"]) ok ?h1 ?h2 ?h3 ?h4 ?h5 ?h6 ?h7 ?h8 ?h9 ?b ?h10 (ρ₀:=[("self",some (.inst 520 (L .d)))]) ?h11 ?h12
  case h1 | h3 | h4 | h5 | h6 | h7 | h8 | h9 | h11=>exact rfl
  case h2=>kernel_rfl
  case h10=>decide +kernel
  case b=>intro us h;obtain ⟨_,rfl⟩:=len1 h;exact rfl
  intro K_ hK_ F hF hFn;w_fin;refine Jk (λ(k:Nat) (ρ:Rho) (σ3:MH)=>σ3=σ/\ρ=([("self",some (.inst 520 (L .d)))]:Rho)) 0 ⟨rfl,rfl⟩ ?_;rintro k Kc hKc ρ σ3 ⟨rfl,rfl⟩;tbr_iter Z1;refine YG I.wt (by rw [hw];simp [Za]) ?_;w_fin;refine p_gt ⟨_,rfl,?_⟩;rw [hw,if_neg (by simp [Za])];w_fin;exact ⟨rfl,rfl⟩
end
set_option tactic.hygienic false
section
variable {S:Sys} {n:Nat×Nat} {X:MH->Prop}
theorem W1 (elt t1 i1 t2 i2:Expr) (scope:Scope) (pos:Pos) (it acc:Value) (env:Env) :
    compTurn (.ListComp elt [⟨t1,i1,[],0⟩,⟨t2,i2,[],0⟩] scope pos) 0 it acc env=(standAt i1.pos >>= λ_=>pyNext it >>= λr=>match r with
      | none=>pure (.done .next)
      | some v=>letOwnedTupleGo t1 it v >>= λ_=>assign t1 env v >>= λ_=>
        eval i2 env >>= λx=>standAt i2.pos >>= λ_=>foldedSetIterable i2 env x >>= λx=>holding [x] (pyIter x) >>= λit2=>runOwn (.compStart (.ListComp elt [⟨t1,i1,[],0⟩,⟨t2,i2,[],0⟩] scope pos) 1 it2 acc env) env >>= λ_=>
          again (.compLoop (.ListComp elt [⟨t1,i1,[],0⟩,⟨t2,i2,[],0⟩] scope pos) 0 it acc env)):=by rfl
theorem QT (elt t1 i1 t2 i2:Expr) (scope:Scope) (pos:Pos) (it acc:Value) (env:Env) :
    compTurn (.ListComp elt [⟨t1,i1,[],0⟩,⟨t2,i2,[],0⟩] scope pos) 0 it acc env=(standAt i1.pos >>= λ_=>pyNext it >>= λr=>match r with
      | none=>pure (.done .next)
      | some v=>letOwnedTupleGo t1 it v >>= λ_=>assign t1 env v >>= λ_=>
        (eval i2 env >>= λx=>standAt i2.pos >>= λ_=>foldedSetIterable i2 env x >>= λx=>holding [x] (pyIter x) >>= λit2=>runOwn (.compStart (.ListComp elt [⟨t1,i1,[],0⟩,⟨t2,i2,[],0⟩] scope pos) 1 it2 acc env) env >>= λ_=>pure ()) >>= λ_=>
          again (.compLoop (.ListComp elt [⟨t1,i1,[],0⟩,⟨t2,i2,[],0⟩] scope pos) 0 it acc env)):=by
  rw [W1];simp only [bind_assoc,pure_bind]
theorem W9 (elt t1 i1 t2 i2:Expr) (scope:Scope) (pos:Pos) (it acc:Value) (env:Env) :
    compTurn (.ListComp elt [⟨t1,i1,[],0⟩,⟨t2,i2,[],0⟩] scope pos) 1 it acc env=(standAt i2.pos >>= λ_=>pyNext it >>= λr=>match r with
      | none=>pure (.done .next)
      | some v=>letOwnedTupleGo t2 it v >>= λ_=>assign t2 env v >>= λ_=>
        (eval elt env >>= λx=>call (.builtin "list.append") [acc,x] >>= λ_=>pure ()) >>= λ_=>
          again (.compLoop (.ListComp elt [⟨t1,i1,[],0⟩,⟨t2,i2,[],0⟩] scope pos) 1 it acc env)):=by rfl
theorem Qq {M:Model} {A:Around} {R:Result->Shared->Prop} {s:Shared} {elt t1 i1 t2 i2:Expr} {scope:Scope} {pos:Pos} {it acc:Value} {env:Env} {prog:Program} {w:World} (hM:M=model prog w)
    (h0:codeAny M A (.compLoop (.ListComp elt [⟨t1,i1,[],0⟩,⟨t2,i2,[],0⟩] scope pos) 1 it acc env) R s)
    (h:wpAny M A (pyIter it) (λit' s'=>codeAny M A (.compLoop (.ListComp elt [⟨t1,i1,[],0⟩,⟨t2,i2,[],0⟩] scope pos) 1 it' acc env) R s') (notedBy M A env λx s'=>R (.error x) s') s) :
    codeAny M A (.compStart (.ListComp elt [⟨t1,i1,[],0⟩,⟨t2,i2,[],0⟩] scope pos) 1 it acc env) R s:=by
  subst hM;refine codeAny_of_tree ?_;show wpAny _ _ ((compStart (.ListComp elt [⟨t1,i1,[],0⟩,⟨t2,i2,[],0⟩] scope pos) 1 it acc env).onRaise (λx=>do noteFrame x env;standAt theWindowsPlace)) _ _ s;refine wpAny_notedAt ?_;unfold compStart;show wpAny _ _ (ask >>= _) _ _ s;refine wpAny_bind (wpAny_askSetting (wpAny_ite ?_));(set_option tactic.hygienic true in split)
  · first
      | exact wpAny_bind (wpAny_pure (wpAny_pure (And.intro rfl h0)))
      | exact wpAny_pure (And.intro rfl h0)
  · refine wpAny_bind (wpAny_rule ?_);show wpAny _ _ (standAt i2.pos >>= _) _ _ s;exact wpAny_bind (wpAny_standAt (wpAny_bind (wpAny_mono h (λit' s' h'=>wpAny_pure (And.intro rfl h')) λ_ _ x=>x)))
variable {F:Frm} {ρ:Rho} {σ:MH}
theorem rComp2 {Q:V->MH->Prop} {elt t1 i1 t2 i2:Expr} {scope sc:Scope} {pos:Pos}
    (hs:∀x,foldedSetIterable i1 F.env x=pure x) (hs2:∀(env:Env) x,foldedSetIterable i2 env x=pure x) (hsc:F.env.scope=sc) (hck:Y0 scope.names ρ sc=true) (hkind:scope.kind=.function)
    (h:WIt S F n i1 ρ σ (λitems G pairs σ1=>(YF t1=true\/(Yb t1=true/\pairs=false))/\
      ∀a,σ1 a=none->∃I:List V->List V->Rho->MH->Prop,I items [] (ZB scope.names ρ) (σ1.set a (.list []))/\(∀its acc ρ' σ',I its acc ρ' σ'->G σ')/\
        (∀Fc:Frm,Fc.env.scope=relabel scope (Zg sc)->Fc.isFn=false->∀x rest acc ρ' σ',I (x::rest) acc ρ' σ'->
          WA S Fc n (assign t1 Fc.env) x ρ' σ' (λρ2 σ2=>WIt S Fc n i2 ρ2 σ2 (λitems2 G2 pairs2 σ3=>(YF t2=true\/(Yb t2=true/\pairs2=false))/\
            ∃J:List V->List V->Rho->MH->Prop,J items2 acc ρ2 σ3/\(∀its acc ρ' σ',J its acc ρ' σ'->G2 σ')/\
              (∀y rest2 acc ρ4 σ4,J (y::rest2) acc ρ4 σ4->WA S Fc n (assign t2 Fc.env) y ρ4 σ4 (λρ5 σ5=>WE S Fc n (eval elt Fc.env) ρ5 σ5 (λm σ6=>acc.length<=100000/\σ6 a=some (.list acc)/\J rest2 (acc++[m]) ρ5 (σ6.set a (.list (acc++[m])))) noX) noX)/\
              (∀acc ρ' σ',J [] acc ρ' σ'->I rest acc ρ' σ')) noX) noX)/\
        (∀acc ρ' σ',I [] acc ρ' σ'->Q (.ref a) σ')) X) :
    WE S F n (eval (.ListComp elt [⟨t1,i1,[],0⟩,⟨t2,i2,[],0⟩] scope pos) F.env) ρ σ Q X:=by
  intro A s hR y;show wpAny _ _ (comprehension (.ListComp elt [⟨t1,i1,[],0⟩,⟨t2,i2,[],0⟩] scope pos) scope F.env (firstIterPos [⟨t1,i1,[],0⟩,⟨t2,i2,[],0⟩] pos) (newList []) false (eval i1 F.env) none) _ _ s;refine Vf (gs:=[⟨t2,i2,[],0⟩]) hs hsc hck hkind hR y (SP:=λa items G pairs σ1=>(YF t1=true\/(Yb t1=true/\pairs=false))/\∃I:List V->List V->Rho->MH->Prop,I items [] (ZB scope.names ρ) (σ1.set a (.list []))/\(∀its acc ρ' σ',I its acc ρ' σ'->G σ')/\
        (∀Fc:Frm,Fc.env.scope=relabel scope (Zg sc)->Fc.isFn=false->∀x rest acc ρ' σ',I (x::rest) acc ρ' σ'->
          WA S Fc n (assign t1 Fc.env) x ρ' σ' (λρ2 σ2=>WIt S Fc n i2 ρ2 σ2 (λitems2 G2 pairs2 σ3=>(YF t2=true\/(Yb t2=true/\pairs2=false))/\
            ∃J:List V->List V->Rho->MH->Prop,J items2 acc ρ2 σ3/\(∀its acc ρ' σ',J its acc ρ' σ'->G2 σ')/\
              (∀y rest2 acc ρ4 σ4,J (y::rest2) acc ρ4 σ4->WA S Fc n (assign t2 Fc.env) y ρ4 σ4 (λρ5 σ5=>WE S Fc n (eval elt Fc.env) ρ5 σ5 (λm σ6=>acc.length<=100000/\σ6 a=some (.list acc)/\J rest2 (acc++[m]) ρ5 (σ6.set a (.list (acc++[m])))) noX) noX)/\
              (∀acc ρ' σ',J [] acc ρ' σ'->I rest acc ρ' σ')) noX) noX)/\
        (∀acc ρ' σ',I [] acc ρ' σ'->Q (.ref a) σ')) ?_ (λ_ _ z=>z) ?_
  · intro A s P hR x k;exact h A s P hR x λitems G pairs σ1 s1 J zz=>by obtain ⟨tg,hI⟩:=zz;exact k items G pairs σ1 s1 J λa ha=>⟨tg,hI a ha⟩
  rintro Fc J items σ1 a s4 ⟨tg,I,hI0,hIG,hturn,hfin⟩ CA;obtain ⟨ce,cf,cr,cy,cx,ca,cp,back⟩:=CA;refine Kd (J:=J) (target:=t1) (items:=items) rfl rfl (QT elt t1 i1 t2 i2 scope pos J.it (.ref a) Fc.env) tg (hR.of cr) cy cx ca cp
    (λits ρ' σ'=>∃acc,I its acc ρ' σ') ⟨[],hI0⟩ (λits ρ' σ' zz=>by obtain ⟨acc,hi⟩:=zz;exact hIG _ _ _ _ hi) ?_ ?_
  · rintro x rest ρ' σ' ⟨acc,hi⟩;intro u A2 s5 hR5 x5 r5;refine wpAny_mono (hturn Fc ce cf x rest acc ρ' σ' hi u A2 s5 hR5 x5 r5) ?_ λ_ _ z=>z;rintro _ s6 ⟨ρ6,σ6,y6,x6,q6⟩;refine ⟨ρ6,σ6,y6,x6,?_⟩;intro A3 s7 hR7 x7;refine wpAny_bind (wpAny_mono (q6 A3 s7 _ hR7 x7 ?_) (λv s8 h8=>wpAny_bind (wpAny_standAt (wpAny_bind (wpAny_of_eq (hs2 Fc.env v) (wpAny_bind (wpAny_holding h8)))))) λ_ _ z=>z);rintro items2 G2 pairs2 σ8 s8 J2 ⟨tg2,JI,j0,jG,jturn,jfin⟩ y8 x8 hJ2G hJ2p hAt2 hfp2;refine wpAny_bind (wpAny_runOwn ?_ (by simp));have inner:codeAny S.M A3 (.compLoop (.ListComp elt [⟨t1,i1,[],0⟩,⟨t2,i2,[],0⟩] scope pos) 1 J2.it (.ref a) Fc.env) (λr s'=>match r with | .ok f=>wpAny S.M A3 (pure ()) (PWX S Fc URep σ6 s7 (λ_ ρ' σ'=>∃acc,I rest acc ρ' σ')) (EX S Fc noX) s' | .error e=>cameBackBy S.M A3 Fc.env (EX S Fc noX) e s') s8:=by
      refine Kd (J:=J2) (target:=t2) (items:=items2) rfl rfl (W9 elt t1 i1 t2 i2 scope pos J2.it (.ref a) Fc.env) (by rw [hJ2p];exact tg2) hR7 (y8.from_no (own:=Fc.own)) x8 hAt2
        (λb hb=>by obtain ⟨a1,a2,a3,a4,a5⟩:=(x7.fresh λb hb=>(hfp2 b hb).1) b hb;exact ⟨a1,a2,a3,a4,a5,(hfp2 b hb).2⟩)
        (λits ρ' σ'=>∃acc,JI its acc ρ' σ') ⟨acc,j0⟩ (λits ρ' σ' zz=>by obtain ⟨acc,hi⟩:=zz;rw [hJ2G];exact jG _ _ _ _ hi) ?_ ?_
      · rintro y9 rest2 ρ9 σ9 ⟨acc9,hj⟩;intro u9 A4 s9 hR9 x9 r9;refine wpAny_mono (jturn y9 rest2 acc9 ρ9 σ9 hj u9 A4 s9 hR9 x9 r9) ?_ λ_ _ z=>z;rintro _ s10 ⟨ρ10,σ10,y10,x10,q10⟩;refine ⟨ρ10,σ10,y10,x10,?_⟩;intro A5 s11 hR11 x11;refine wpAny_bind (wpAny_mono (q10 A5 s11 hR11 x11) ?_ λ_ _ z=>z);rintro v s12 ⟨m,σ12,y12,x12,r12,hz,ha12,hq⟩;refine wpAny_bind (wpAny_mono (Z5 (F:=Fc) (n:=n) (ρ:=ρ10) (X:=noX) (Q:=λmm σ13=>σ13=σ12.set a (.list (acc9++[m]))) ha12 (by lia) rfl [.ref a,v] A5 s12 hR11 x12 (Zc.cons (by first | exact rfl | exact ⟨_,rfl⟩) (Zc.cons r12 Zc.nil))) ?_ λ_ _ z=>z);rintro _ s13 ⟨_,σ13,y13',x13,_,rfl⟩;exact wpAny_pure ⟨(),ρ10,_,(y12.trans y13').from_no,x13,trivial,_,hq⟩
      · rintro ρ' σ' s' yz xz ⟨acc',hj⟩;exact wpAny_pure ⟨(),ρ',σ',yz,xz,trivial,acc',jfin _ _ _ hj⟩
    exact Qq rfl inner (J2.self A3 _ _ items2 _ hAt2 inner)
  · rintro ρ6 σ6 s6 y6 x6 ⟨acc,hi⟩;obtain ⟨own6,out6,hCs,fresh6,hn6,m6,hm6⟩:=back ρ6 σ6 s6 y6 x6;refine ⟨m6,hm6,λh' hs'=>?_⟩;obtain ⟨x7,y7,_⟩:=UA (own6.from_no (own:=F.own)) out6 fresh6 hn6 ⟨m6,hm6⟩ hs';refine ⟨.ref _,σ6,?_,x7,rfl,hfin _ _ _ hi⟩;exact ⟨λb o e hbn _=>(own6.keep b o e hbn id).then λo' e'=>.inl ((hs'.2 b (λz=>by
      have e1:s.heap.get? Fc.env.locals=some o:=z▸e;rw [hCs] at e1;cases e1)).trans e'),y7.alive,y7.dom,y7.os⟩
end
set_option tactic.hygienic false
section
variable {S:Sys} {F:Frm} {n:Nat×Nat} {ρ:Rho} {σ:MH} {X:MH->Prop}
noncomputable def elOk (S:Sys) (n:Nat×Nat) (scope sc:Scope) (elt:Expr) (R:V->Rho) (items:List V) (σ1:MH) (f:V->V):Prop:=
  ∀Fc:Frm,Fc.env.scope=relabel scope (Zg sc)->Fc.isFn=false->∀x∈items,∀σ2,Ext σ1 σ2->WE S Fc n (eval elt Fc.env) (R x) σ2 (λm σ4=>σ4=σ2/\m=f x) noX
noncomputable def ifOk (S:Sys) (n:Nat×Nat) (scope sc:Scope) (c:Expr) (R:V->Rho) (items:List V) (σ1:MH) (p:V->Bool):Prop:=
  ∀Fc:Frm,Fc.env.scope=relabel scope (Zg sc)->Fc.isFn=false->∀x∈items,∀σ2,Ext σ1 σ2->WB S Fc n (isTrue c Fc.env (eval c Fc.env)) (R x) σ2 (λb σ4=>σ4=σ2/\b=p x) noX
noncomputable def tgOk (S:Sys) (n:Nat×Nat) (scope sc:Scope) (target:Expr) (R0:Rho) (R:V->Rho) (items:List V):Prop:=
  ∀Fc:Frm,Fc.env.scope=relabel scope (Zg sc)->∀ρ',(ρ'=R0\/∃y,ρ'=R y)->∀x∈items,∀σ' QA,QA (R x) σ'->WA S Fc n (assign target Fc.env) x ρ' σ' QA noX
theorem W3 {scope sc:Scope} {tx:Str} {tp:Pos} {items:List V} (T:Option V->Rho) (hT:∀o m,UpdR (T o) tx m (T (some m)))
    (hloc:∀Fc:Frm,Fc.env.scope=relabel scope (Zg sc)->Fc.env.kindOf tx=some .local):tgOk S n scope sc (.Name tx tp) (T none) (λx=>T (some x)) items:=by
  intro Fc hFc ρ' hρ x _ σ' QA q;rcases hρ with rfl | ⟨y,rfl⟩
  · exact ZC (hT _ _) (.inr (hloc Fc hFc)) q
  · exact ZC (hT _ _) (.inr (hloc Fc hFc)) q
theorem tgPair {scope sc:Scope} {t1 t2:Str} {p1 p2 tp:Pos} {kk:Nat} {items:List V} (R0:Rho) (R:V->Rho) (hp:∀x∈items,∃a b,x=.tup [a,b]) (T:Option V->Option V->Rho) (h0:R0=T none none) (hR:∀a b,R (.tup [a,b])=T (some a) (some b)) (hR2:∀x,∃a b,R x=T a b)
    (hT1:∀o o2 m,UpdR (T o o2) t1 m (T (some m) o2)) (hT2:∀o o2 m,UpdR (T o o2) t2 m (T o (some m)))
    (hloc1:∀Fc:Frm,Fc.env.scope=relabel scope (Zg sc)->Fc.env.kindOf t1=some .local) (hloc2:∀Fc:Frm,Fc.env.scope=relabel scope (Zg sc)->Fc.env.kindOf t2=some .local) :
    tgOk S n scope sc (.Tuple [.Name t1 p1,.Name t2 p2] kk tp) R0 R items:=by
  intro Fc hFc ρ' hρ x hx σ' QA q;obtain ⟨a,b,rfl⟩:=hp x hx;have:∃o o2,ρ'=T o o2:=by
    rcases hρ with rfl | ⟨y,rfl⟩
    · exact ⟨_,_,h0⟩
    · obtain ⟨a,b,e⟩:=hR2 y;exact ⟨_,_,e⟩
  obtain ⟨o,o2,rfl⟩:=this;refine WJ rfl rfl ZW trivial ?_;refine ZC (hT1 _ _ _) (.inr (hloc1 Fc hFc)) ?_;refine ZC (hT2 _ _ _) (.inr (hloc2 Fc hFc)) ?_;show QA _ _;rw [<-hR];exact q
theorem csM {elt target:Expr} {scope sc:Scope} {items:List V} {G:MH->Prop} {a:Addr} {σ1:MH} {R:V->Rho} {f:V->V} {QR:List V->MH->Prop} (ht:tgOk S n scope sc target (ZB scope.names ρ) R items) (hz:items.length<=100000) (ha:σ1 a=none)
    (hG:∀σ2,Ext σ1 σ2->G σ2) (hf:elOk S n scope sc elt R items σ1 f) (hq:QR (items.map f) (σ1.set a (.list (items.map f)))):XI S F n sc scope elt target [] items G a (ZB scope.names ρ) σ1 QR:=by
  refine ⟨⟨λits acc ρ' σ'=>(ρ'=ZB scope.names ρ\/∃y,ρ'=R y)/\∃pre,items=pre++its/\acc=pre.map f/\σ'=σ1.set a (.list acc),⟨.inl rfl,[],rfl,rfl,rfl⟩,?_,?_,?_⟩⟩
  · rintro its acc ρ' σ' ⟨_,pre,_,_,rfl⟩;exact ⟨hG _ (Ext.set ha),MH.set_same ..⟩
  · rintro Fc hFc hFn x rest acc ρ' σ' ⟨hρ,pre,rfl,rfl,rfl⟩;refine ht Fc hFc ρ' hρ x (by simp) _ _ ?_;simp only [WIfs,if_true];refine WE.conseq (hf Fc hFc hFn x (by simp) _ (Ext.set ha)) ?_;rintro m σ4 ⟨rfl,rfl⟩;refine ⟨_,Ext.refl _,?_,MH.set_same ..,.inr ⟨_,rfl⟩,pre++[x],by simp,by simp,by simp [XO]⟩;simp only [List.length_append,List.length_map] at hz ⊢;lia
  · rintro acc ρ' σ' ⟨_,pre,h1,rfl,rfl⟩;simp only [List.append_nil] at h1;subst h1;exact hq
theorem csF {elt target c:Expr} {scope sc:Scope} {items:List V} {G:MH->Prop} {a:Addr} {σ1:MH} {R:V->Rho} {f:V->V} {p:V->Bool} {QR:List V->MH->Prop} (ht:tgOk S n scope sc target (ZB scope.names ρ) R items) (hz:items.length<=100000) (ha:σ1 a=none)
    (hG:∀σ2,Ext σ1 σ2->G σ2) (hc:ifOk S n scope sc c R items σ1 p) (hf:elOk S n scope sc elt R items σ1 f) (hq:QR ((items.filter p).map f) (σ1.set a (.list ((items.filter p).map f)))):XI S F n sc scope elt target [c] items G a (ZB scope.names ρ) σ1 QR:=by
  refine ⟨⟨λits acc ρ' σ'=>(ρ'=ZB scope.names ρ\/∃y,ρ'=R y)/\∃pre,items=pre++its/\acc=(pre.filter p).map f/\σ'=σ1.set a (.list acc),⟨.inl rfl,[],rfl,rfl,rfl⟩,?_,?_,?_⟩⟩
  · rintro its acc ρ' σ' ⟨_,pre,_,_,rfl⟩;exact ⟨hG _ (Ext.set ha),MH.set_same ..⟩
  · rintro Fc hFc hFn x rest acc ρ' σ' ⟨hρ,pre,rfl,rfl,rfl⟩;refine ht Fc hFc ρ' hρ x (by simp) _ _ ?_;refine WB.conseq (hc Fc hFc hFn x (by simp) _ (Ext.set ha)) ?_;rintro b σ4 ⟨rfl,rfl⟩;refine ⟨_,Ext.refl _,?_⟩;(set_option tactic.hygienic true in split)
    · rename_i hpx;refine WE.conseq (hf Fc hFc hFn x (by simp) _ (Ext.set ha)) ?_;rintro m σ4 ⟨rfl,rfl⟩;refine ⟨_,Ext.refl _,?_,MH.set_same ..,.inr ⟨_,rfl⟩,pre++[x],by simp,by simp [hpx],by simp [XO]⟩;have:=List.length_filter_le p pre;simp only [List.length_append,List.length_map] at hz ⊢;lia
    · rename_i hpx;simp only [Bool.not_eq_true] at hpx;exact ⟨.inr ⟨_,rfl⟩,pre++[x],by simp,by simp [hpx],rfl⟩
  · rintro acc ρ' σ' ⟨_,pre,h1,rfl,rfl⟩;simp only [List.append_nil] at h1;subst h1;exact hq
theorem rFlat {Q:V->MH->Prop} {s1 s2:Str} {q1 q2 q3 q4:Pos} {i1:Expr} {scope sc:Scope} {pos:Pos} (T:Option V->Option V->Rho)
    (hs:∀x,foldedSetIterable i1 F.env x=pure x) (hs2:∀(env:Env) x,foldedSetIterable (.Name s1 q2) env x=pure x) (hsc:F.env.scope=sc) (hck:Y0 scope.names ρ sc=true) (hkind:scope.kind=.function)
    (hT0:ZB scope.names ρ=T none none) (hT1:∀o o2 m,UpdR (T o o2) s1 m (T (some m) o2)) (hT2:∀o o2 m,UpdR (T o o2) s2 m (T o (some m)))
    (hm1:∀m o,(s1,some m)∈T (some m) o) (hm2:∀m o,(s2,some m)∈T o (some m))
    (hloc1:∀Fc:Frm,Fc.env.scope=relabel scope (Zg sc)->Fc.env.kindOf s1=some .local) (hloc2:∀Fc:Frm,Fc.env.scope=relabel scope (Zg sc)->Fc.env.kindOf s2=some .local)
    (h:WIt S F n i1 ρ σ (λitems G pairs σ1=>pairs=false/\(∀σ2,Ext σ1 σ2->G σ2)/\∃ls:List (Addr×List V),items=ls.map (λp=>.ref p.1)/\(∀p∈ls,σ1 p.1=some (.list p.2))/\(ls.flatMap (·.2)).length<=100000/\
      ∀a,σ1 a=none->Q (.ref a) (σ1.set a (.list (ls.flatMap (·.2))))) X) :
    WE S F n (eval (.ListComp (.Name s2 q1) [⟨.Name s1 q3,i1,[],0⟩,⟨.Name s2 q4,.Name s1 q2,[],0⟩] scope pos) F.env) ρ σ Q X:=by
  refine rComp2 hs hs2 hsc hck hkind ?_;intro A s P hR x k;refine h A s P hR x ?_;rintro items G pairs σ1 st1 J ⟨hp,hG,ls,rfl,hl,hz,hq⟩ y z e1 e2 hA hfr;refine k _ G pairs σ1 st1 J ⟨.inr ⟨rfl,hp⟩,λa ha=>?_⟩ y z e1 e2 hA hfr;refine ⟨λits acc ρ' σ'=>(∃o o2,ρ'=T o o2)/\∃pre post,ls=pre++post/\its=post.map (λp=>V.ref p.1)/\acc=pre.flatMap (·.2)/\σ'=σ1.set a (.list acc),⟨⟨none,none,hT0⟩,[],ls,rfl,rfl,rfl,rfl⟩,?_,?_,?_⟩
  · rintro its acc ρ' σ' ⟨_,pre,post,_,_,_,rfl⟩;exact hG _ (Ext.set ha)
  · rintro Fc hFc hFn x rest acc ρ' σ' ⟨⟨o,o2,rfl⟩,pre,post,rfl,hx,rfl,rfl⟩;cases post with
    | nil=>simp at hx
    | cons pr post=>
      simp only [List.map_cons,List.cons.injEq] at hx;obtain ⟨rfl,rfl⟩:=hx;refine ZC (hT1 _ _ _) (.inr (hloc1 Fc hFc)) ?_;refine itL (rName (hm1 _ _) ?_);have hpr:=hl pr (by simp);refine ⟨pr.1,pr.2,rfl,Ext.set ha _ _ hpr,.inr ⟨rfl,rfl⟩,λits acc ρ' σ'=>(∃o2,ρ'=T (some (.ref pr.1)) o2)/\∃p2,pr.2=p2++its/\acc=pre.flatMap (·.2)++p2/\σ'=σ1.set a (.list acc),⟨⟨o2,rfl⟩,[],rfl,by simp,rfl⟩,?_,?_,?_⟩
      · rintro its acc ρ' σ' ⟨_,p2,_,rfl,rfl⟩;exact Ext.set ha _ _ hpr
      · rintro y rest2 acc ρ4 σ4 ⟨⟨o2,rfl⟩,p2,hp2,rfl,rfl⟩;refine ZC (hT2 _ _ _) (.inr (hloc2 Fc hFc)) ?_;refine rName (hm2 _ _) ⟨?_,MH.set_same ..,⟨_,rfl⟩,p2++[y],by simp [hp2],by simp,by simp [XO]⟩;simp only [List.flatMap_append,List.flatMap_cons,List.length_append,hp2] at hz;simp only [List.length_append];lia
      · rintro acc ρ4 σ4 ⟨⟨o2,rfl⟩,p2,hp2,rfl,rfl⟩;simp only [List.append_nil] at hp2;exact ⟨⟨_,_,rfl⟩,pre++[pr],post,by simp,rfl,by simp [hp2],rfl⟩
  · rintro acc ρ' σ' ⟨_,pre,post,rfl,hx,rfl,rfl⟩;have:post=[]:=by cases post with
      | nil=>rfl
      | cons _ _=>simp at hx
    subst this;simpa using hq a ha
end
set_option tactic.hygienic false
section
variable {w:World} {h0:Heap}
variable {σ:MH} {L:Lay} {oh:Option HS} {l:Option LS} {ex:Nat->Option Zd}
noncomputable def Z7 (a:Addr) (sp st:Int):List (Key×V):=[(.inl "cells",.ref a),(.inl "spot",.int sp),(.inl "stir",.int st)]
theorem Vu (a:Addr) (sp st:Int):Yo (Z7 a sp st) (.inl "cells")=some (.ref a):=by rfl
theorem J7 (a:Addr) (sp st:Int):Yo (Z7 a sp st) (.inl "spot")=some (.int sp):=by rfl
theorem Wy (a:Addr) (sp st:Int):Yo (Z7 a sp st) (.inl "stir")=some (.int st):=by rfl
theorem VL (a:Addr) (sp st v:Int):YU (Z7 a sp st) (.inl "spot") (.int v)=Z7 a v st:=by rfl
theorem VW (a:Addr) (sp st v:Int):YU (Z7 a sp st) (.inl "stir") (.int v)=Z7 a sp v:=by rfl
structure Z2 (ex:Nat->Option Zd) (a:Addr) (cells:List Int):Prop where
  at0:∃sp st:Int,ex 0=some (.dict (Z7 a sp st))/\0<=sp/\0<=st/\st<1021
  at1:ex 1=some (.list (cells.map V.int))
  len:cells.length<=50
theorem YA (ok:SysOk (SS w h0)) (I:Inv σ L ⟨oh,l,ex⟩) {cells:List Int} (Hd:Z2 ex (L (.x 1)) cells) {many:Nat} (hm:0<many) (hm2:many<=1000) :
    Fn (SS w h0) 1 (.ref 531) [.ref (L (.x 0)),.int many] σ (λm σ'=>∃(v:Nat),A3 (v<many) (m=.int v) (∃ex',A3 (Inv σ' L ⟨oh,l,ex'⟩) (Z2 ex' (L (.x 1)) cells) (∀n,n≠0->ex' n=ex n))):=by
  obtain ⟨⟨sp,st,h0',hsp,hst0,hst⟩,h1',hlen⟩:=Hd;have fm:∀x:Int,∃v:Nat,v<many/\x.fmod many=v:=λx=>by
    refine ⟨(x.fmod many).toNat,?_,?_⟩
    · have a:=Int.fmod_nonneg_of_pos x (b:=(many:Int)) (by lia);have b:=Int.fmod_lt_of_pos x (b:=(many:Int)) (by lia);lia
    · have a:=Int.fmod_nonneg_of_pos x (b:=(many:Int)) (by lia);lia
  refine' Fn.introK (k:=0) (ps:=["hand","many"]) ok ?h1 ?h2 ?h3 ?h4 ?h5 ?h6 ?h7 ?h8 ?h9 ?b ?h10 (ρ₀:=[("hand",some (.ref (L (.x 0)))),("many",some (.int many))]) ?h11 ?h12
  case h1 | h3 | h4 | h5 | h6 | h7 | h8 | h9 | h11=>exact rfl
  case h2=>kernel_rfl
  case h10=>decide +kernel
  case b=>intro us h;obtain ⟨_,_,rfl⟩:=len2 h;exact rfl
  intro K_ hK_ F hF hFn;w_fin;refine WN ?_ (by exact rfl);w_fin;refine Yc (k:=.inl "spot") rfl (I.x h0') (J7 ..) ?_ (by exact rfl);w_fin;refine Jp ?_;w_fin;refine X8 (k:=.inl "spot") rfl (I.x h0') (by simp [Z7]) ?_;rw [VL];have I1:=I.setX (.dict (Z7 (L (.x 1)) (sp+1) st)) h0';have k1:∀n,n≠0->exS ex 0 (some (.dict (Z7 (L (.x 1)) (sp+1) st))) n=ex n:=λn hn=>Zj hn;have g0:exS ex 0 (some (.dict (Z7 (L (.x 1)) (sp+1) st))) 0=some (.dict (Z7 (L (.x 1)) (sp+1) st)):=Zr ..;generalize exS ex 0 (some (.dict (Z7 (L (.x 1)) (sp+1) st)))=ex1 at I1 k1 g0;have g1:ex1 1=some (.list (cells.map V.int)):=by rw [k1 1 (by simp)];exact h1'
  w_left;show WS _ _ _ _ _ (σ.set (L (.x 0)) (.dict (Z7 (L (.x 1)) (sp+1) st))) _ _;generalize σ.set (L (.x 0)) (.dict (Z7 (L (.x 1)) (sp+1) st))=σ1 at I1 ⊢;w_fin;refine Yc (k:=.inl "spot") rfl (I1.x g0) (J7 ..) ?_ (by exact rfl);tbr_iter Z1;refine Yc (k:=.inl "cells") rfl (I1.x g0) (Vu ..) ?_ (by exact rfl);w_fin;refine YG (I1.x g1) (by simp;lia) ?_;refine p_le ⟨_,rfl,?_⟩;by_cases hle:sp+1<=((cells.map V.int).length:Int)
  · refine ifP (by simpa using hle) ?_;w_fin;refine Yc (k:=.inl "cells") rfl (I1.x g0) (Vu ..) ?_ (by exact rfl);w_fin;refine Yc (k:=.inl "spot") rfl (I1.x g0) (J7 ..) ?_ (by exact rfl);w_fin;refine Q2 ?_;simp only [List.length_map] at hle;refine ZX (I1.x g1) (by lia) (by lia) (v:=.int (cells.getD (sp+1-1).toNat 0)) ?_ ?_ (by exact rfl)
    · have:(sp+1-1).toNat<cells.length:=by lia
      rw [List.getElem?_map,List.getElem?_eq_getElem this];simp only [Option.map_some,List.getD,List.getElem?_eq_getElem this,Option.getD_some]
    w_fin;obtain ⟨v,hv,e⟩:=fm (cells.getD (sp+1-1).toNat 0);refine QU (by lia) ?_;w_fin;exact ⟨v,hv,by rw [e];rfl,ex1,I1,⟨⟨_,_,g0,by lia,hst0,hst⟩,g1,hlen⟩,k1⟩
  · refine ifN (by simpa using hle) ?_;w_left;w_fin;refine WN ?_ (by exact rfl);w_fin;refine Yc (k:=.inl "stir") rfl (I1.x g0) (Wy ..) ?_ (by exact rfl);w_fin;refine p_mul ?_ (IntMulOk.of_right (by decide +kernel));w_fin;refine Jp ?_;w_fin;refine QU (by lia) ?_;w_fin;refine X8 (k:=.inl "stir") rfl (I1.x g0) (by simp [Z7]) ?_;rw [VW];have b1:=Int.fmod_nonneg_of_pos (st * 29+13) (b:=1021) (by lia);have b2:=Int.fmod_lt_of_pos (st * 29+13) (b:=1021) (by lia);generalize (st * 29+13).fmod 1021=st2 at b1 b2 ⊢;have I2:=I1.setX (.dict (Z7 (L (.x 1)) (sp+1) st2)) g0;have k2:∀n,n≠0->exS ex1 0 (some (.dict (Z7 (L (.x 1)) (sp+1) st2))) n=ex n:=λn hn=>by rw [Zj hn,k1 n hn]
    have g20:exS ex1 0 (some (.dict (Z7 (L (.x 1)) (sp+1) st2))) 0=some (.dict (Z7 (L (.x 1)) (sp+1) st2)):=Zr ..;generalize exS ex1 0 (some (.dict (Z7 (L (.x 1)) (sp+1) st2)))=ex2 at I2 k2 g20;have g21:ex2 1=some (.list (cells.map V.int)):=by rw [k2 1 (by simp)];exact h1'
    w_left;show WS _ _ _ _ _ (σ1.set (L (.x 0)) (.dict (Z7 (L (.x 1)) (sp+1) st2))) _ _;generalize σ1.set (L (.x 0)) (.dict (Z7 (L (.x 1)) (sp+1) st2))=σ2 at I2 ⊢;w_fin;refine Yc (k:=.inl "stir") rfl (I2.x g20) (Wy ..) ?_ (by exact rfl);w_fin;refine p_div (by lia) (by rfl) ?_;w_fin;obtain ⟨v,hv,e⟩:=fm (st2.fdiv 3);refine QU (by lia) ?_;w_fin;exact ⟨v,hv,by rw [e];rfl,ex2,I2,⟨⟨_,_,g20,by lia,b1,b2⟩,g21,hlen⟩,k2⟩
end
set_option tactic.hygienic false
section
variable {w:World} {h0:Heap}
variable {σ:MH} {L:Lay} {oh:Option HS} {l:Option LS} {ex:Nat->Option Zd}
theorem law_hand (ok:SysOk (SS w h0)) (I:Inv σ L ⟨oh,l,ex⟩) (e0:ex 0=none) (e1:ex 1=none) {sa:Addr} {is:List Int} (B:JC (SS w h0) sa is) (hz:is.length<=1000) :
    Fn (SS w h0) 1 (.ref 536) [.ref sa] σ (λm σ'=>E3 λL' ex' cells=>A5 (Inv σ' L' ⟨oh,l,ex'⟩) (m=.ref (L' (.x 0))) (Z2 ex' (L' (.x 1)) cells) ((∀n,n≠0->n≠1->ex' n=ex n)) (Z4 ⟨oh,l,ex⟩ L L')):=by
  refine' Fn.introK (k:=0) (ps:=["script"]) ok ?h1 ?h2 ?h3 ?h4 ?h5 ?h6 ?h7 ?h8 ?h9 ?b ?h10 (ρ₀:=[("script",some (.ref sa)),("cells",none)]) ?h11 ?h12
  case h1 | h3 | h4 | h5 | h6 | h7 | h8 | h9 | h11=>exact rfl
  case h2=>kernel_rfl
  case h10=>decide +kernel
  case b=>intro us h;obtain ⟨_,rfl⟩:=len1 h;exact rfl
  intro K_ hK_ F hF hFn;w_fin;refine KV (λ_=>by exact rfl) hF (by exact rfl) rfl hFn (by rw [YS hF];exact rfl) (itL (rSliceB ?_));w_left;refine ⟨sa,is,rfl,B,hz,?_⟩;refine rPart ?_;w_fin;refine ⟨50,rfl,λD hD=>⟨D,_,rfl,MH.set_same ..,.inr ⟨rfl,rfl⟩,λa ha=>?_⟩⟩;have hl50:((is.take 50).map V.int).length<=50:=by simp;lia
  refine csM (W3 (λo=>[(".0",none),("cell",o)]) (λ_ _=>UpdR.tail UpdR.head) (λFc h=>by show Fc.env.scope.names.lookup _=_;rw [h];exact rfl)) (by lia) ha (λσ2 e=>e _ _ (MH.set_same ..))
    (f:=λv=>match v with | .int j=>.int ((if j<0 then -j else j).fmod 1000003) | v=>v) ?_ ?_
  · intro Fc hFc hFn' v hv σ2 e;obtain ⟨j,_,rfl⟩:=List.mem_map.mp hv;w_left;tbr_iter bt_abs;refine p_abs ?_;w_fin;exact QU (by decide) ⟨rfl,rfl⟩
  refine ⟨_,UpdR.tail UpdR.head,?_⟩;have e2:(((is.take 50).map V.int).map λv=>match v with | .int j=>V.int ((if j<0 then -j else j).fmod 1000003) | v=>v)=((is.take 50).map λj=>(if j<0 then -j else j).fmod 1000003).map V.int:=by
    rw [List.map_map,List.map_map];rfl
  rw [e2];generalize hc:((is.take 50).map λj=>(if j<0 then -j else j).fmod 1000003)=cells;have hcl:cells.length<=50:=by rw [<-hc];simpa using hl50
  w_left;refine WS.drop (σ0:=σ.set a (.list (cells.map V.int))) ((Ext.set hD).put a _) ?_;have ha':σ a=none:=Zx (Ext.set hD) ha;obtain ⟨L1,I1,d1,k1⟩:∃L1:Lay,Inv (σ.set a (.list (cells.map V.int))) L1 ⟨oh,l,exS ex 1 (some (.list (cells.map V.int)))⟩/\L1 (.x 1)=a/\∀g,g≠.x 1->L1 g=L g:=⟨_,I.newX ha' 1 _,Zn ..,λg hg=>Zk hg⟩;subst d1;generalize σ.set (L1 (.x 1)) (.list (cells.map V.int))=σ1 at I1 ⊢;have c1:σ1 (L1 (.x 1))=some (.list (cells.map V.int)):=I1.x';w_left;w_left;refine rDictP rfl rfl (by simp) (by simp) (λD0 hD0=>?_);show WE _ _ _ _ _ _ _ _;w_fin;refine ⟨.inl "cells",rfl,?_⟩;w_fin;show WE _ _ _ _ _ _ _ _;w_fin;refine ⟨.inl "spot",rfl,?_⟩;w_fin;show WE _ _ _ _ _ _ _ _;w_fin;refine ⟨.inl "stir",rfl,?_⟩;w_fin;tbr_iter bt_sum;refine p_sum (Ext.set hD0 _ _ c1) rfl λk=>?_;refine Jp ?_;w_fin;refine QU (by decide) ?_;have b1:=Int.fmod_nonneg_of_pos (5+k) (b:=1021) (by lia);have b2:=Int.fmod_lt_of_pos (5+k) (b:=1021) (by lia);generalize (5+k).fmod 1021=st at b1 b2 ⊢;refine ⟨MH.set_same ..,?_⟩;rw [XO];w_left;have I2:=I1.newX hD0 0 (.dict (Z7 (L1 (.x 1)) 0 st));refine ⟨upd L1 (.x 0) D0,_,cells,I2,by rw [Zn];rfl,?_,?_,?_⟩
  · rw [Zk (by simp)];exact ⟨⟨0,st,Zr ..,by lia,b1,b2⟩,by rw [Zj (by simp),Zr],hcl⟩
  · intro n h0 h1;rw [Zj h0,Zj h1]
  · intro g hg hne;rw [Zk (λe=>by subst e;exact hne e0),k1 g (λe=>by subst e;exact hne e1)]
end
set_option tactic.hygienic false
section
variable {w:World} {h0:Heap}
theorem ops_ok {op:Str} (h:op∈ops):PyData.strOk op=true:=by
  simp only [ops,List.mem_cons,List.not_mem_nil,or_false] at h;rcases h with rfl | rfl | rfl | rfl | rfl <;> decide +kernel
noncomputable def ndD (nd:Zp):Dt:=.many (Zz nd)
theorem ndD_v (ns:List Zp):ns.map Zw=(ns.map ndD).map Dt.v:=by rw [List.map_map];rfl
theorem KP {nd:Zp} (h:nd.1∈Mine.ops):(ndD nd).ok=true:=by
  simp only [ndD,Dt.ok,Zz,List.all_cons,kOk,ops_ok h,Bool.true_and,List.all_map,Function.comp,List.all_eq_true,implies_true]
theorem UL {ns:List Zp} (h:∀nd∈ns,nd.1∈Mine.ops):(ns.map ndD).all Dt.ok=true:=by
  rw [List.all_map,List.all_eq_true];exact λnd hnd=>KP (h nd hnd)
theorem UX {a b:Zp} (h:ndD a=ndD b):a=b:=Kr (Dt.many.inj h)
theorem KT {ns:List Zp} {nd:Zp}:ndD nd∈ns.map ndD ↔ nd∈ns:=
  ⟨λh=>by obtain ⟨x,hx,e⟩:=List.mem_map.mp h;exact UX e▸hx,λh=>List.mem_map_of_mem h⟩
theorem ndD_idx {ns:List Zp} (nd:ns.Nodup) {i:Nat} {x:Zp} (h:ns[i]?=some x):(ns.map ndD).idxOf (ndD x)=i:=by
  have hm:ndD x∈ns.map ndD:=KT.2 (List.mem_of_getElem? h);have hlt:=List.idxOf_lt_length_of_mem hm;have hg:=List.getElem_idxOf hlt;have hg':(ns.map ndD)[(ns.map ndD).idxOf (ndD x)]?=some (ndD x):=by rw [List.getElem?_eq_getElem hlt,hg]
  rw [List.getElem?_map] at hg';obtain ⟨y,h1,h2⟩:=Option.map_eq_some_iff.mp hg';have:=UX h2;subst this;exact ((List.getElem?_inj (List.getElem?_eq_some_iff.mp h).1 nd).mp (h.trans h1.symm)).symm
theorem Ext.setN {σ σ1:MH} {a:Addr} {o:Zd} (e:Ext σ σ1) (h:σ a=none):Ext σ (σ1.set a o):=λb mo hb=>by
  rw [MH.set_ne (λq=>by subst q;rw [h] at hb;cases hb)];exact e b mo hb
noncomputable def prD (p:Nat×Nat):Dt:=.many [.inr (p.1:Int),.inr (p.2:Int)]
theorem prD_v (l:List (Nat×Nat)):l.map Zh=(l.map prD).map Dt.v:=by rw [List.map_map];rfl
theorem prD_ok (l:List (Nat×Nat)):(l.map prD).all Dt.ok=true:=by simp [prD,Dt.ok,kOk]
noncomputable def ZF (n:Nat) (f:NF):List V:=Za ((List.range n).map f)
theorem Yj {n:Nat} {f:NF} {a:Nat} (h:a<n):(ZF n f)[(a:Int).toNat]?=some (.int (f a)):=by
  simp [ZF,Za,h]
theorem JE (n:Nat) (f:NF):(ZF n f).length=n:=by simp [ZF,Za]
theorem inv_nil (σ:MH) (L:Lay):Inv σ L ⟨none,none,λ_=>none⟩:=
  ⟨λg k hg _ _=>by cases g <;> exact absurd rfl hg,λg o h=>by cases g <;> cases h⟩
end
set_option tactic.hygienic false
noncomputable def Y5 (ns:List Zp) (f:NF):List Dt:=ns.map λnd=>Dt.many (Zz (nd.1,nd.2.map f))
noncomputable def XG (ns:List Zp) (f:NF) (i:Nat):Nat:=(Y5 ns f).idxOf ((Y5 ns f).getD i (.many []))
noncomputable def Xd (ns:List Zp) (f:NF):List (Nat×Nat):=((List.range ns.length).filter λi=>!decide (f (XG ns f i)=f i)).map λi=>(XG ns f i,i)
theorem Va {ns:List Zp} {f:NF} {i:Nat} {nd:Zp} (h:ns[i]?=some nd):(Y5 ns f).getD i (.many [])=.many (Zz (nd.1,nd.2.map f)):=by
  unfold Y5;simp [List.getD,h]
theorem Ub {ns:List Zp} (f:NF) {i:Nat} {nd:Zp} (h:ns[i]?=some nd):∃nd',ns[XG ns f i]?=some nd'/\nd'.1=nd.1/\nd'.2.map f=nd.2.map f:=by
  have hm:Dt.many (Zz (nd.1,nd.2.map f))∈Y5 ns f:=by
    unfold Y5;exact List.mem_map_of_mem (f:=λnd:Zp=>Dt.many (Zz (nd.1,nd.2.map f))) (List.mem_of_getElem? h)
  have hlt:=List.idxOf_lt_length_of_mem hm;have hg:=List.getElem_idxOf hlt;unfold XG;rw [Va h];have hg':(Y5 ns f)[(Y5 ns f).idxOf (.many (Zz (nd.1,nd.2.map f)))]?=some (.many (Zz (nd.1,nd.2.map f))):=by
    rw [List.getElem?_eq_getElem hlt,hg]
  unfold Y5 at hg' ⊢;rw [List.getElem?_map] at hg';obtain ⟨nd',h1,h2⟩:=Option.map_eq_some_iff.mp hg';have:=Kr (Dt.many.inj h2);simp only [Prod.mk.injEq] at this;exact ⟨nd',h1,this⟩
theorem idx_same {ns:List Zp} {f:NF} {i j:Nat} {a b:Zp} (hi:ns[i]?=some a) (hj:ns[j]?=some b) (h1:a.1=b.1) (h2:a.2.map f=b.2.map f):XG ns f i=XG ns f j:=by
  unfold XG;rw [Va hi,Va hj,h1,h2]
theorem late_len (ns:List Zp) (f:NF):(Xd ns f).length<=ns.length:=by
  unfold Xd;have:=List.length_filter_le (λi=>!decide (f (XG ns f i)=f i)) (List.range ns.length);simpa using this
theorem Uh {ns:List Zp} {f:NF} {a b:Nat} (h:(a,b)∈Xd ns f):b<ns.length/\a=XG ns f b/\f a≠f b:=by
  unfold Xd at h;obtain ⟨i,hi,e⟩:=List.mem_map.mp h;simp only [Prod.mk.injEq] at e;obtain ⟨rfl,rfl⟩:=e;obtain ⟨h1,h2⟩:=List.mem_filter.mp hi;exact ⟨by simpa using h1,rfl,by simpa using h2⟩
structure LQ (ns:List Zp) (P:List (Nat×Nat)) (f:NF) (late:List (Nat×Nat)):Prop where
  fo:Fo ns P f
  forced:∀a b,(a,b)∈late->a<ns.length/\b<ns.length/\∀g,Cl ns g->Re P g->g a=g b
  pend:∀a b,(a,b)∈P->f a=f b\/(a,b)∈late
  done:late=[]->Cl ns f
theorem LQ.start {ns:List Zp} {P:List (Nat×Nat)} (nd:ns.Nodup) (h:∀p∈P,p.1<ns.length/\p.2<ns.length):LQ ns P (λx=>x) P where
  fo:=Fo.id ns P
  forced:=λa b m=>⟨(h _ m).1,(h _ m).2,λg _ r=>r a b m⟩
  pend:=λa b m=>.inr m
  done:=λ_ i j a b hi hj h1 h2=>by
    have e:a=b:=by
      have:a.2=b.2:=by simpa using h2
      exact Prod.ext h1 this
    subst e;exact (List.getElem?_inj (List.getElem?_eq_some_iff.mp hi).1 nd).mp (hi.trans hj.symm)
theorem LQ.step {ns:List Zp} {P late:List (Nat×Nat)} {f:NF} {a b:Nat} (q:LQ ns P f (late++[(a,b)])) (hne:late≠[]):LQ ns P (lnk f a b) late where
  fo:=q.fo.lnk λg c r _=>(q.forced a b (by simp)).2.2 g c r
  forced:=λx y m=>q.forced x y (List.mem_append_left _ m)
  pend:=λx y m=>by
    rcases q.pend x y m with h | h
    · exact .inl (by rw [<-Jz q.fo.rp a b x,<-Jz q.fo.rp a b y,h])
    · rcases List.mem_append.mp h with h | h
      · exact .inr h
      · simp only [List.mem_singleton,Prod.mk.injEq] at h;obtain ⟨rfl,rfl⟩:=h;exact .inl (UJ _ _)
  done:=λe=>absurd e hne
theorem LQ.turn {ns:List Zp} {P:List (Nat×Nat)} {f:NF} {a b:Nat} (q:LQ ns P f [(a,b)]):LQ ns P (lnk f a b) (Xd ns (lnk f a b)):=by
  have fo:Fo ns P (Mine.lnk f a b):=q.fo.lnk λg c r _=>(q.forced a b (by simp)).2.2 g c r;refine ⟨fo,λx y m=>?_,λx y m=>.inl ?_,λe=>?_⟩
  · obtain ⟨hy,rfl,hne⟩:=Uh m;obtain ⟨nd,hnd⟩:∃nd,ns[y]?=some nd:=⟨_,List.getElem?_eq_getElem hy⟩;obtain ⟨nd',h1,h2,h3⟩:=Ub (Mine.lnk f a b) hnd;refine ⟨(List.getElem?_eq_some_iff.mp h1).1,hy,λg c r=>c _ _ nd' nd h1 hnd h2 ?_⟩;have fi:=fo.le g c r;rw [<-WP fi,h3,WP fi]
  · rcases q.pend x y m with h | h
    · rw [<-Jz q.fo.rp a b x,<-Jz q.fo.rp a b y,h]
    · simp only [List.mem_singleton,Prod.mk.injEq] at h;obtain ⟨rfl,rfl⟩:=h;exact UJ _ _
  · have key:∀i nd,ns[i]?=some nd->Mine.lnk f a b (XG ns (Mine.lnk f a b) i)=Mine.lnk f a b i:=by
      intro i nd hi;have hlt:=(List.getElem?_eq_some_iff.mp hi).1;unfold Xd at e;simp only [List.map_eq_nil_iff,List.filter_eq_nil_iff,List.mem_range,Bool.not_eq_true',decide_eq_false_iff_not,Decidable.not_not] at e;exact e i hlt
    intro i j x y hi hj h1 h2;rw [<-key i x hi,<-key j y hj,idx_same hi hj h1 h2]
theorem LQ.fin {ns:List Zp} {P:List (Nat×Nat)} {f:NF} (q:LQ ns P f []):Lst ns P f:=
  q.fo.lst (q.done rfl) λa b m=>(q.pend a b m).elim id λh=>absurd h List.not_mem_nil
noncomputable def muL (n N:Nat) (f:NF) (late:List (Nat×Nat)):Nat:=cnt n f * (2 * N+2)+(match late.getLast? with | none=>0 | some p=>if f p.1=f p.2 then N+1 else 0)+late.length
theorem muL_le {n N:Nat} {f:NF} {late:List (Nat×Nat)} (h:late.length<=N):muL n N f late<=cnt n f * (2 * N+2)+(2 * N+1):=by
  unfold muL;(set_option tactic.hygienic true in split)
  · lia
  · (set_option tactic.hygienic true in split) <;> lia
theorem UC {n N:Nat} {f:NF} {late:List (Nat×Nat)} (h:late.length<=N) (hu:∀a b,(a,b)∈late->f a≠f b):muL n N f late<=cnt n f * (2 * N+2)+N:=by
  unfold muL;(set_option tactic.hygienic true in split)
  · lia
  · rename_i p hp;have:p∈late:=List.mem_of_getLast? hp;rw [if_neg (hu p.1 p.2 this)];lia
theorem muL_snoc (n N:Nat) (f:NF) (late:List (Nat×Nat)) (a b:Nat):muL n N f (late++[(a,b)])=cnt n f * (2 * N+2)+(if f a=f b then N+1 else 0)+(late.length+1):=by
  unfold muL;simp
theorem QY {n N:Nat} {f:NF} (hf:Rp f) {late late2:List (Nat×Nat)} {a b:Nat} (ha:a<n) (hb:b<n) (hl:late2.length<=N)
    (h:(late≠[]/\late2=late)\/(late=[]/\∀x y,(x,y)∈late2->lnk f a b x≠lnk f a b y)):muL n N (lnk f a b) late2<muL n N f (late++[(a,b)]):=by
  rw [muL_snoc];by_cases e:f a=f b
  · rw [if_pos e,J9 e];rcases h with ⟨hne,rfl⟩ | ⟨_,hu⟩
    · unfold muL;(set_option tactic.hygienic true in split)
      · lia
      · (set_option tactic.hygienic true in split) <;> lia
    · rw [J9 e] at hu;have:=UC (n:=n) (N:=N) hl hu;lia
  · rw [if_neg e];have h1:=WO hf ha hb e;have h2:=muL_le (n:=n) (N:=N) (f:=lnk f a b) hl;have h3:(cnt n (lnk f a b)+1) * (2 * N+2)<=cnt n f * (2 * N+2):=Nat.mul_le_mul_right _ h1;rw [Nat.add_mul] at h3;lia
theorem JK:∀(k:Nat) (l:List V),Yy k l=(l.zipIdx k).map λp=>V.tup [.int p.2,p.1]
  | k,[]=>rfl
  | k,v::r=>by rw [Yy,List.zipIdx_cons,List.map_cons,JK (k+1) r]
noncomputable def Wh (T:Option V->Option V->Rho):V->Rho
  | .tup [x,y]=>T (some x) (some y)
  | _=>T none none
theorem pairR_ex (T:Option V->Option V->Rho) (x:V):∃a b,Wh T x=T a b:=by
  unfold Wh;(set_option tactic.hygienic true in split) <;> exact ⟨_,_,rfl⟩
theorem U5 {S:Sys} {n:Nat×Nat} {scope sc:Scope} {t1 t2:Str} {p1 p2 tp:Pos} {kk:Nat} {items:List V} {R0:Rho} (T:Option V->Option V->Rho) (h0:R0=T none none) (hp:∀x∈items,∃a b,x=.tup [a,b])
    (hT1:∀o o2 m,UpdR (T o o2) t1 m (T (some m) o2)) (hT2:∀o o2 m,UpdR (T o o2) t2 m (T o (some m)))
    (hloc1:∀Fc:Frm,Fc.env.scope=relabel scope (Zg sc)->Fc.env.kindOf t1=some .local) (hloc2:∀Fc:Frm,Fc.env.scope=relabel scope (Zg sc)->Fc.env.kindOf t2=some .local) :
    tgOk S n scope sc (.Tuple [.Name t1 p1,.Name t2 p2] kk tp) R0 (Wh T) items:=
  tgPair R0 (Wh T) hp T h0 (λ_ _=>rfl) (pairR_ex T) hT1 hT2 hloc1 hloc2
theorem VJ {k:Nat} {vs:List V}:∀x∈Yy k vs,∃a b,x=.tup [a,b]:=by
  intro x hx;rw [JK] at hx;obtain ⟨p,_,rfl⟩:=List.mem_map.mp hx;exact ⟨_,_,rfl⟩
set_option tactic.hygienic false
section
variable {w:World} {h0:Heap}
variable {σ:MH} {L:Lay}
theorem X2 {p:Nat->Bool} {g:Nat->V} {pV:V->Bool} {fV:V->V} (hp:∀(i:Nat) v,pV (.tup [.int i,v])=p i) (hf:∀(i:Nat) v,fV (.tup [.int i,v])=g i):∀(k:Nat) (vs:List V),((Yy k vs).filter pV).map fV=((List.range' k vs.length).filter p).map g
  | k,[]=>rfl
  | k,v::r=>by
    have ih:=X2 hp hf (k+1) r;rw [Yy,List.length_cons,List.range'_succ,List.filter_cons,List.filter_cons,hp];(set_option tactic.hygienic true in split)
    · rw [List.map_cons,List.map_cons,hf,ih]
    · exact ih
theorem XF:∀{k:Nat} {vs:List V} {x:V},x∈Yy k vs->∃i v,vs[i]?=some v/\x=.tup [.int (k+i:Nat),v]
  | k,[],x,h=>by cases h
  | k,v::r,x,h=>by
    rw [Yy] at h;rcases List.mem_cons.mp h with rfl | h
    · exact ⟨0,v,rfl,rfl⟩
    · obtain ⟨i,u,h1,rfl⟩:=XF h;exact ⟨i+1,u,by simpa using h1,by rw [show k+1+i=k+(i+1) by lia]⟩
noncomputable def keyV (f:NF):V->V
  | .tup (op::ks)=>.tup (op::ks.map (Xo f))
  | v=>v
theorem V6 (f:NF) (nd:Zp):keyV f (Zw nd)=Zw (nd.1,nd.2.map f):=by
  rw [YY,YY];show V.tup (.str nd.1::(Za nd.2).map (Xo f))=_;rw [Yv]
theorem ds_ok {ns:List Zp} {f:NF} (h:∀nd∈ns,nd.1∈ops):(Y5 ns f).all Dt.ok=true:=by
  unfold Y5;rw [List.all_map,List.all_eq_true];intro nd hnd;simp only [Function.comp,Dt.ok,Zz,List.all_cons,kOk,ops_ok (h nd hnd),Bool.true_and,List.all_map,List.all_eq_true,implies_true]
theorem ds_v (ns:List Zp) (f:NF):(ns.map Zw).map (keyV f)=(Y5 ns f).map Dt.v:=by
  unfold Y5;rw [List.map_map,List.map_map];apply List.map_congr_left;intro nd _;exact V6 f nd
theorem Ww (ok:SysOk (SS w h0)) {na pa:Addr} {ns:List Zp} {P:List (Nat×Nat)} (hn:σ na=some (.list (ns.map Zw))) (hp:σ pa=some (.list (P.map Zh))) (nd:ns.Nodup) (hops:∀nd∈ns,nd.1∈ops)
    (hk:∀(i:Nat) (nd:Zp),ns[i]?=some nd->nd.2.length<=4/\∀k∈nd.2,k<ns.length) (hz:ns.length<=60) (hP:∀p∈P,p.1<ns.length/\p.2<ns.length) (hPz:P.length<=1000) :
    Fn (SS w h0) 1 (.ref 541) [.ref na,.ref pa] σ (λm σ'=>E2 λD o=>A4 (σ D=none) (m=.ref D) (σ'=σ.set D o) (∃f,o=.list (ZF ns.length f)/\Lst ns P f)):=by
  refine Fn.newPA ?_;refine' Fn.introK (k:=0) (ps:=["nodes","pairs"]) ok ?h1 ?h2 ?h3 ?h4 ?h5 ?h6 ?h7 ?h8 ?h9 ?b ?h10 (ρ₀:=[("nodes",some (.ref na)),("pairs",some (.ref pa)),("homes",none),("late",none),("a",none),("b",none),("low",none),("high",none),("keys",none)]) ?h11 ?h12
  case h1 | h3 | h4 | h5 | h6 | h7 | h8 | h9 | h11=>exact rfl
  case h2=>kernel_rfl
  case h10=>decide +kernel
  case b=>intro us h;obtain ⟨_,_,rfl⟩:=len2 h;exact rfl
  intro K_ hK_ F hF hFn;w_fin;refine JM ?_ (by exact rfl) (by rw [Zy hF];exact rfl);w_fin;tbr_iter WF;tbr_iter YK;tbr_iter Z1;refine YG hn (by simp;lia) ?_;w_fin;refine Y2 ?_;w_fin;refine U0 (by simp;lia) λha hha=>?_;tbr_iter WF;refine p_listL (Ext.set hha _ _ hp) (by simp;lia) λla hla=>?_;w_fin;refine ⟨by simp,?_⟩;refine WJ (by exact rfl) (by exact rfl) ZW trivial ?_;refine ZC (UpdR.tail<|UpdR.tail UpdR.head) (.inl hFn) ?_;refine ZC (UpdR.tail<|UpdR.tail<|UpdR.tail UpdR.head) (.inl hFn) ?_;have hla0:σ la=none:=Zx (Ext.set hha) hla;have hne:ha≠la:=λe=>by subst e;rw [MH.set_same] at hla;cases hla
  have e0:YC 0 (ns.map Zw).length=ZF ns.length (λx=>x):=by
    rw [YR,List.length_map];simp [ZF,Za]
  rw [e0] at hla ⊢;obtain ⟨N,hN⟩:∃N,N=ns.length+P.length:=⟨_,rfl⟩;w_left;w_left;w_fin;refine Jk (λ(k:Nat) (ρ:Rho) (σ1:MH)=>E9 λla ha f late o1 o2 o3 o4 o5=>A10 (Ext σ σ1) (σ la=none) (ha≠la) (σ ha=none) (σ1 la=some (.list (late.map Zh))) (σ1 ha=some (.list (ZF ns.length f))) (ρ=([("nodes",some (.ref na)),("pairs",some (.ref pa)),("homes",some (.ref ha)),("late",some (.ref la)),("a",o1),("b",o2),("low",o3),("high",o4),("keys",o5)]:Rho)) (LQ ns P f late) (late.length<=N) (k=muL ns.length N f late)) _
    ⟨la,ha,λx=>x,P,none,none,none,none,none,(Ext.set hha).trans (Ext.set hla),hla0,hne,hha,MH.set_same ..,by rw [MH.set_ne hne,MH.set_same],rfl,LQ.start nd hP,by lia,rfl⟩ ?_
  rintro k Kc hKc ρ σ1 ⟨la,ha,f,late,o1,o2,o3,o4,o5,E1,hla,hne,hha,gla,gha,rfl,Q1,hlN,rfl⟩;w_fin;refine ⟨by simp,λD0 hD0=>?_⟩;refine Wf (as:=late.map prD) (bs:=[]) (prD_ok _) rfl (Ext.set hD0 _ _ gla) (MH.set_same ..) (prD_v _) rfl ⟨_,rfl,?_⟩;cases hl:late.getLast? with
  | none=>
    have:late=[]:=by simpa using hl
    subst this;refine ifN (by simp) ?_;w_fin;refine ⟨ha,_,hha,rfl,?_,f,rfl,Q1.fin⟩;intro b mo hb;by_cases q:b=ha
    · subst q;rw [MH.set_same] at hb;exact Ext.set hD0 _ _ (gha.trans hb)
    · rw [MH.set_ne q] at hb;exact Ext.set hD0 _ _ (E1 _ _ hb)
  | some p=>
    obtain ⟨pa',pb'⟩:=p;obtain ⟨late',rfl⟩:∃late',late=late'++[(pa',pb')]:=by
      have:=List.getLast?_eq_some_iff.mp hl;exact this
    obtain ⟨hpa,hpb,hforce⟩:=Q1.forced pa' pb' (by simp);refine ifP (by simp) ?_;w_fin;refine JM ?_ (by exact rfl) (by rw [Zy hF];exact rfl);have gla0:=Ext.set (mo:=.list []) hD0 _ _ gla;have gha0:=Ext.set (mo:=.list []) hD0 _ _ gha;have E10:Ext σ (σ1.set D0 (.list [])):=E1.trans (Ext.set hD0);generalize σ1.set D0 (.list [])=σ2 at gla0 gha0 E10 ⊢;rw [List.map_append,List.map_cons,List.map_nil] at gla0;tb_from PySem.F.slot_list_pop;refine p_pop gla0 (by simp at hlN ⊢;lia) ?_;refine WJ (by exact rfl) (by exact rfl) ZW trivial ?_;refine ZC (UpdR.tail<|UpdR.tail<|UpdR.tail<|UpdR.tail UpdR.head) (.inl hFn) ?_;refine ZC (UpdR.tail<|UpdR.tail<|UpdR.tail<|UpdR.tail<|UpdR.tail UpdR.head) (.inl hFn) ?_;w_left;w_left;have hlN':late'.length+1<=N:=by simpa using hlN
    have gla1:(σ2.set la (.list (late'.map Zh))) la=some (.list (late'.map Zh)):=MH.set_same ..;have gha1:(σ2.set la (.list (late'.map Zh))) ha=some (.list (ZF ns.length f)):=by rw [MH.set_ne hne];exact gha0
    have E11:Ext σ (σ2.set la (.list (late'.map Zh))):=E10.setN hla;generalize σ2.set la (.list (late'.map Zh))=σ3 at gla1 gha1 E11 ⊢;w_fin;refine JM ?_ (by exact rfl) (by rw [Zy hF];exact rfl);w_fin;tbr_iter bt_min;refine ZX gha1 (by lia) (by lia) (Yj hpa) ?_ (by exact rfl);w_fin;refine ZX gha1 (by lia) (by lia) (Yj hpb) ?_ (by exact rfl);w_fin;refine p_min2 ?_;w_fin;tbr_iter Uk;refine ZX gha1 (by lia) (by lia) (Yj hpa) ?_ (by exact rfl);w_fin;refine ZX gha1 (by lia) (by lia) (Yj hpb) ?_ (by exact rfl);w_fin;refine p_max2 ?_;w_fin;rw [QK,Qr];refine ⟨by simp,?_⟩;refine WJ (by exact rfl) (by exact rfl) ZW trivial ?_;refine ZC (UpdR.tail<|UpdR.tail<|UpdR.tail<|UpdR.tail<|UpdR.tail<|UpdR.tail UpdR.head) (.inl hFn) ?_;refine ZC (UpdR.tail<|UpdR.tail<|UpdR.tail<|UpdR.tail<|UpdR.tail<|UpdR.tail<|UpdR.tail UpdR.head) (.inl hFn) ?_;w_left;w_left;w_left;refine fSet ?_ (.inl hFn) (by rw [YS hF];exact rfl);refine Wl (λ_=>by exact rfl) hF (by exact rfl) rfl (itL ?_);w_fin;refine ⟨ha,_,rfl,gha1,.inr ⟨rfl,rfl⟩,λa haa=>?_⟩;refine csM (W3 (λo=>[(".0",none),("home",o),("high",some (.int (max (f pa') (f pb'):Nat))),("low",some (.int (min (f pa') (f pb'):Nat)))]) (λ_ _=>UpdR.tail UpdR.head) (λFc h=>by show Fc.env.scope.names.lookup _=_;rw [h];exact rfl)) (by rw [JE];lia) haa (λσ2 e=>e _ _ gha1)
      (f:=Xo λx=>if x=max (f pa') (f pb') then min (f pa') (f pb') else x) ?_ ?_
    · intro Fc hFc hFn' v hv σ2 e;obtain ⟨j,_,rfl⟩:=Yi hv;w_fin;refine V2 ⟨_,rfl,?_⟩;rw [Ws];by_cases q:j=max (f pa') (f pb')
      · refine ifP (by simp [q]) ?_;w_fin;exact ⟨rfl,by simp [Xo,q]⟩
      · refine ifN (by simp [q]) ?_;w_fin;exact ⟨rfl,by simp [Xo,q]⟩
    refine ⟨_,UpdR.tail<|UpdR.tail UpdR.head,?_⟩;have eh:(ZF ns.length f).map (Xo λx=>if x=max (f pa') (f pb') then min (f pa') (f pb') else x)=ZF ns.length (lnk f pa' pb'):=by
      unfold ZF;rw [Yv,List.map_map];rfl
    rw [eh];have gla2:=Ext.set (mo:=.list (ZF ns.length (lnk f pa' pb'))) haa _ _ gla1;have gha2:(σ3.set a (.list (ZF ns.length (lnk f pa' pb')))) a=_:=MH.set_same ..;have E12:Ext σ (σ3.set a (.list (ZF ns.length (lnk f pa' pb')))):=E11.trans (Ext.set haa);have hne2:a≠la:=λe=>by subst e;rw [haa] at gla1;cases gla1
    have ha0:σ a=none:=Zx E11 haa;generalize σ3.set a (.list (ZF ns.length (lnk f pa' pb')))=σ4 at gla2 gha2 E12 ⊢;w_left;w_left;w_fin;refine ⟨by simp,λD1 hD1=>?_⟩;have gla3:=Ext.set (mo:=.list []) hD1 _ _ gla2;have gha3:=Ext.set (mo:=.list []) hD1 _ _ gha2;have E13:Ext σ (σ4.set D1 (.list [])):=E12.trans (Ext.set hD1);refine p_eql (as:=late'.map prD) (bs:=[]) (prD_ok _) rfl gla3 (MH.set_same ..) (prD_v _) rfl ⟨_,rfl,?_⟩;generalize σ4.set D1 (.list [])=σ5 at gla3 gha3 E13 ⊢;generalize hf':lnk f pa' pb'=f' at gha3 ⊢;by_cases hemp:late'=[]
    · subst hemp;refine ifP (by simp) ?_;w_left;refine fSet ?_ (.inl hFn) (by rw [YS hF];exact rfl);have n5:=E13 _ _ hn;refine Wl (λ_=>by exact rfl) hF (by exact rfl) rfl (itL ?_);w_fin;refine ⟨na,_,rfl,n5,.inr ⟨rfl,rfl⟩,λka hka=>?_⟩;refine csM (W3 (λo=>[(".0",none),("node",o),("homes",some (.ref a))]) (λ_ _=>UpdR.tail UpdR.head) (λFc h=>by show Fc.env.scope.names.lookup _=_;rw [h];exact rfl)) (by simp;lia) hka (λσ2 e=>e _ _ n5) (f:=keyV f') ?_ ?_
      · intro Fc hFc hFn' v hv σ6 e6;obtain ⟨nd0,hnd0,rfl⟩:=List.mem_map.mp hv;obtain ⟨i0,hi0⟩:=List.mem_iff_getElem?.mp hnd0;obtain ⟨hk4,hkl⟩:=hk i0 nd0 hi0;refine WE.conseq (Q':=λm σ'=>Ext σ6 σ'/\m=keyV f' (Zw nd0)) ?_ (λm σ' ⟨e,h⟩=>⟨σ6,e,rfl,h⟩);rw [V6,YY,YY];have gha6:=e6 _ _ gha3;show WE _ _ _ _ [(".0",none),("node",some (.tup (.str nd0.1::Za nd0.2))),("homes",some (.ref a))] _ _ _;w_fin;refine KS (by lia) (by lia) (v:=.str nd0.1) (by rfl) ?_ (by exact rfl);w_fin;refine ⟨by simp,?_⟩;tbr_iter XE;refine Jc (λo=>[(".0",none),("kid",o),("homes",some (.ref a))]) (λ_=>by exact rfl) hFc (by exact rfl) rfl (by exact rfl) (λ_ _=>UpdR.tail UpdR.head) (λFc h=>by show Fc.env.scope.names.lookup _=_;rw [h];exact rfl) (itT (Jh ?_));w_fin;refine ⟨_,rfl,?_⟩;w_fin;refine ⟨1,rfl,by lia,by simp,by simp [Za];lia,Za nd0.2,rfl,rfl,by simp [Za];lia,λ_ _=>trivial,Xo f',?_,λa7 ha7=>?_⟩
        · intro Fc2 hFc2 hFn2 v hv σ7 e7;obtain ⟨kk,hkk,rfl⟩:=Yi hv;w_fin;exact ZX (e7 _ _ gha6) (by lia) (by have:=hkl kk hkk;lia) (Yj (hkl kk hkk)) ⟨rfl,by simp [Xo]⟩ (by exact rfl)
        rw [Yv];w_fin;refine X9 (MH.set_same ..) (by simp [Za];lia) ?_;exact X4 (by simp [Za];lia) ⟨Ext.set ha7,rfl⟩
      · rw [ds_v];refine ⟨_,UpdR.tail<|UpdR.tail<|UpdR.tail<|UpdR.tail<|UpdR.tail<|UpdR.tail<|UpdR.tail<|UpdR.tail UpdR.head,?_⟩;have gka:=MH.set_same σ5 ka (.list ((Y5 ns f').map Dt.v));have gha4:=Ext.set (mo:=.list ((Y5 ns f').map Dt.v)) hka _ _ gha3;have E14:Ext σ (σ5.set ka (.list ((Y5 ns f').map Dt.v))):=E13.trans (Ext.set hka);generalize σ5.set ka (.list ((Y5 ns f').map Dt.v))=σ6 at gka gha4 E14 ⊢;have hdl:((Y5 ns f').map Dt.v).length=ns.length:=by simp [Y5]
        w_left;w_left;w_fin;refine KV (λ_=>by exact rfl) hF (by exact rfl) rfl hFn (by rw [YS hF];exact rfl) (iEnum ok (bkOf XS hF (by exact rfl) (by decide) (by decide)) rfl ?_);w_fin;refine ⟨ka,_,rfl,gka,.inl rfl,λl2 hl2=>?_⟩;refine csF (R:=Wh λo o2=>[(".0",none),("n",o),("key",o2),("homes",some (.ref a)),("keys",some (.ref ka))]) (p:=λv=>match v with | .tup [.int i,_]=>!decide (f' (XG ns f' i.toNat)=f' i.toNat) | _=>false) (f:=λv=>match v with | .tup [.int i,_]=>.tup [.int (XG ns f' i.toNat),.int i] | v=>v)
          (U5 _ (by exact rfl) VJ (λ_ _ _=>UpdR.tail UpdR.head) (λ_ _ _=>UpdR.tail<|UpdR.tail UpdR.head)
            (λFc h=>by show Fc.env.scope.names.lookup _=_;rw [h];exact rfl) (λFc h=>by show Fc.env.scope.names.lookup _=_;rw [h];exact rfl))
          (by rw [JK];simp [hdl];lia) hl2 (λσ2 e=>e _ _ gka) ?_ ?_ ?_
        · intro Fc hFc hFn' v hv σ7 e7;obtain ⟨i,u,hu,rfl⟩:=XF hv;rw [Nat.zero_add] at hv ⊢;rw [List.getElem?_map] at hu;obtain ⟨d,hd,rfl⟩:=Option.map_eq_some_iff.mp hu;have hd':=hd;unfold Y5 at hd';rw [List.getElem?_map] at hd';obtain ⟨nd0,hnd0,rfl⟩:=Option.map_eq_some_iff.mp hd';have hi:=(List.getElem?_eq_some_iff.mp hnd0).1;have eix:(Y5 ns f').idxOf (.many (Zz (nd0.1,nd0.2.map f')))=XG ns f' i:=by unfold XG;rw [Va hnd0]
          obtain ⟨_,hix,_⟩:=Ub f' hnd0;have hixl:=(List.getElem?_eq_some_iff.mp hix).1;have gka7:=e7 _ _ gka;have gha7:=e7 _ _ gha4;show WB _ _ _ _ [(".0",none),("n",some (.int i)),("key",some (Dt.v (.many (Zz (nd0.1,nd0.2.map f'))))),("homes",some (.ref a)),("keys",some (.ref ka))] _ _ _;w_fin;tb_from PySem.F.slot_list_index;refine W2 (d:=.many (Zz (nd0.1,nd0.2.map f'))) (by have:=ds_ok (f:=f') hops;rw [List.all_eq_true] at this;exact this _ (List.mem_of_getElem? hd)) (ds_ok hops) gka7 rfl (List.mem_of_getElem? hd) (by rw [hdl];lia) ?_;rw [eix];refine ZX gha7 (by lia) (by lia) (Yj hixl) ?_ (by exact rfl);w_fin;refine ZX gha7 (by lia) (by lia) (Yj hi) ?_ (by exact rfl);refine Vh ⟨_,rfl,rfl,?_⟩;rw [Qy];simp
        · intro Fc hFc hFn' v hv σ7 e7;obtain ⟨i,u,hu,rfl⟩:=XF hv;rw [Nat.zero_add] at hv ⊢;rw [List.getElem?_map] at hu;obtain ⟨d,hd,rfl⟩:=Option.map_eq_some_iff.mp hu;have hd':=hd;unfold Y5 at hd';rw [List.getElem?_map] at hd';obtain ⟨nd0,hnd0,rfl⟩:=Option.map_eq_some_iff.mp hd';have eix:(Y5 ns f').idxOf (.many (Zz (nd0.1,nd0.2.map f')))=XG ns f' i:=by unfold XG;rw [Va hnd0]
          have gka7:=e7 _ _ gka;show WE _ _ _ _ [(".0",none),("n",some (.int i)),("key",some (Dt.v (.many (Zz (nd0.1,nd0.2.map f'))))),("homes",some (.ref a)),("keys",some (.ref ka))] _ _ _;w_fin;tb_from PySem.F.slot_list_index;refine W2 (d:=.many (Zz (nd0.1,nd0.2.map f'))) (by have:=ds_ok (f:=f') hops;rw [List.all_eq_true] at this;exact this _ (List.mem_of_getElem? hd)) (ds_ok hops) gka7 rfl (List.mem_of_getElem? hd) (by rw [hdl];lia) ?_;rw [eix];w_fin;exact ⟨by simp,rfl,by simp⟩
        · refine ⟨_,UpdR.tail<|UpdR.tail<|UpdR.tail UpdR.head,?_⟩;have el:((Yy 0 ((Y5 ns f').map Dt.v)).filter λv=>match v with | .tup [.int i,_]=>!decide (f' (XG ns f' i.toNat)=f' i.toNat) | _=>false).map (λv=>match v with | .tup [.int i,_]=>V.tup [.int (XG ns f' i.toNat),.int i] | v=>v)=(Xd ns f').map Zh:=by
            rw [X2 (p:=λi=>!decide (f' (XG ns f' i)=f' i)) (g:=λi=>V.tup [.int (XG ns f' i),.int i]) (λi v=>by simp) (λi v=>by simp),hdl,<-List.range_eq_range'];unfold Xd;rw [List.map_map];rfl
          rw [el];have hneN:a≠l2:=λe=>by subst e;rw [hl2] at gha4;cases gha4
          have g1:=MH.set_same σ6 l2 (.list ((Xd ns f').map Zh));have g2:=Ext.set (mo:=.list ((Xd ns f').map Zh)) hl2 _ _ gha4;have E15:Ext σ (σ6.set l2 (.list ((Xd ns f').map Zh))):=E14.trans (Ext.set hl2);have hl20:σ l2=none:=Zx E14 hl2;refine unWh hKc ?_;subst hf';have hll:=late_len ns (lnk f pa' pb');exact ⟨_,QY Q1.fo.rp hpa hpb (by lia) (.inr ⟨rfl,λx y m=>(Uh m).2.2⟩),l2,a,_,_,_,_,_,_,_,E15,hl20,hneN,ha0,g1,g2,rfl,Q1.turn,by lia,rfl⟩
    · refine ifN (by simp [hemp]) ?_;w_fin;subst hf';exact ⟨_,QY Q1.fo.rp hpa hpb (by lia) (.inl ⟨hemp,rfl⟩),la,a,_,late',_,_,_,_,_,E13,hla,hne2,ha0,gla3,gha3,rfl,Q1.step hemp,by lia,rfl⟩
end
set_option tactic.hygienic false
section
variable {w:World} {h0:Heap}
variable {σ:MH} {L:Lay} {h:HS} {l:Option LS} {ex:Nat->Option Zd}
structure GH (h:HS) (ex:Nat->Option Zd):Prop where
  h1:H1 h
  ops:∀nd∈h.nodes,nd.1∈ops
  row:ex 2=some (.list (h.nodes.map Zw))
theorem VI (ok:SysOk (SS w h0)) (I:Inv σ L ⟨some h,l,ex⟩) (Gh:GH h ex) (hs:h.nodes.length<60) (hpos:0<h.nodes.length) {cells:List Int} (Hd:Z2 ex (L (.x 1)) cells) (h100:ex 100=none) (h103:ex 103=none) :
    Fn (SS w h0) 6 (.ref 546) [.ref (L (.x 0)),.inst 520 (L .d),.ref (L (.x 2))] σ (λm σ'=>m=.bool true/\E3 λL' h' ex'=>A7 (Inv σ' L' ⟨some h',l,ex'⟩) (Z4 ⟨some h,l,ex⟩ L L') (GH h' ex') (Z2 ex' (L' (.x 1)) cells) ((∀n,n≠0->n≠2->ex' n=ex n)) (h'.nodes.length<=h.nodes.length+1) (h.nodes.length<=h'.nodes.length)):=by
  refine' Fn.introK (k:=5) (ps:=["hand","heap_now","nodes"]) ok ?h1 ?h2 ?h3 ?h4 ?h5 ?h6 ?h7 ?h8 ?h9 ?b ?h10 (ρ₀:=[("hand",some (.ref (L (.x 0)))),("heap_now",some (.inst 520 (L .d))),("nodes",some (.ref (L (.x 2)))),("op",none),("kids",none),("n",none)]) ?h11 ?h12
  case h1 | h3 | h4 | h5 | h6 | h7 | h8 | h9 | h11=>exact rfl
  case h2=>kernel_rfl
  case h10=>decide +kernel
  case b=>intro us h;obtain ⟨_,_,_,rfl⟩:=len3 h;exact rfl
  intro K_ hK_ F hF hFn;w_fin;refine ⟨by simp,?_⟩;ktn_call ZS ZT;refine Fn.mono (YA ok I Hd (many:=2) (by lia) (by lia)) (by decide) ?_;rintro m σ1 ⟨v,hv,rfl,ex1,I1,Hd1,k1⟩;obtain ⟨op,hop,hget⟩:∃op:Str,op∈ops/\([V.str "f",V.str "g"]:List V)[(v:Int).toNat]?=some (.str op):=by
    have:v=0\/v=1:=by lia
    rcases this with rfl | rfl
    · exact ⟨"f",by decide +kernel,rfl⟩
    · exact ⟨"g",by decide +kernel,rfl⟩
  refine KS (by lia) (by lia) hget ?_ (by exact rfl);w_fin;have row1:ex1 2=some (.list (h.nodes.map Zw)):=by rw [k1 2 (by simp)];exact Gh.row
  have hz60:=Gh.h1.small;tbr_iter XE;refine rCompI (λo=>[(".0",none),("k",o),("hand",some (.ref (L (.x 0)))),("nodes",some (.ref (L (.x 2))))]) (λ_=>by exact rfl) hF (by exact rfl) rfl (by exact rfl) (λ_ _=>UpdR.tail UpdR.head) (λFc h=>by show Fc.env.scope.names.lookup _=_;rw [h];exact rfl) (itR ?_);refine fCallT ok (bkOf YK hF (by exact rfl) (by decide) (by decide)) (by exact rfl) ?_;w_left;refine WE.conseq (Q':=λm σ'=>∃(c:Nat),A3 ((c=1\/c=2)) (m=.int c) (σ'=σ1)) ?_ ?_
  · w_fin;refine p_eqs ⟨_,rfl,?_⟩;(set_option tactic.hygienic true in split)
    · w_fin;exact ⟨1,.inl rfl,rfl,rfl⟩
    · w_fin;exact ⟨2,.inr rfl,rfl,rfl⟩
  rintro m σ' ⟨c,hc,rfl,rfl⟩;refine ⟨σ',Ext.refl _,?_⟩;w_fin;refine Y2 ⟨c,rfl,by lia,rfl,λa ha=>?_⟩;have e103:ex1 103=none:=by rw [k1 103 (by simp)];exact h103
  obtain ⟨L2,I2,eD,eL,back⟩:=I1.openX ha 103 e103 (.list []);subst eD;have Hd2:Z2 (exS ex1 103 (some (.list []))) (L2 (.x 1)) cells:=by
    rw [eL _ (by simp)];obtain ⟨⟨sp,st,a1,a2⟩,a3,a4⟩:=Hd1;exact ⟨⟨sp,st,by rw [Zj (by simp)];exact a1,a2⟩,by rw [Zj (by simp)];exact a3,a4⟩
  rw [<-eL (.x 0) (by simp),<-eL (.x 2) (by simp),<-eL .d (gne rfl)];refine ⟨λits acc σ4=>E2 λex4 vs=>A7 (Inv σ4 L2 ⟨some h,l,ex4⟩) (ex4 103=some (.list (Za vs))) (acc=Za vs) (Z2 ex4 (L2 (.x 1)) cells) ((∀v∈vs,v<h.nodes.length)) (vs.length+its.length=c) ((∀n,n≠0->n≠103->ex4 n=ex n)),
    ⟨_,[],I2,Zr ..,rfl,Hd2,by simp,by simp,λn h0 h1=>by rw [Zj h1,k1 n h0]⟩,?_,?_,?_⟩
  · rintro its acc σ4 ⟨ex4,vs,I4,g4,rfl,_⟩;exact ⟨trivial,I4.x g4⟩
  · rintro Fc hFc hFn' x rest acc σ4 ⟨ex4,vs,I4,g4,rfl,Hd4,hv4,hl4,k4⟩;have row4:ex4 2=some (.list (h.nodes.map Zw)):=by rw [k4 2 (by simp) (by simp)];exact Gh.row
    ktn_call ZS ZT;tbr_iter Z1;refine YG (I4.x row4) (by simp;lia) ?_;rewrite [List.length_map]
    w_fin;refine Fn.mono (YA ok I4 Hd4 hpos (by lia)) (by decide) ?_;rintro m σ5 ⟨u,hu,rfl,ex5,I5,Hd5,k5⟩;have g5:ex5 103=some (.list (Za vs)):=by rw [k5 103 (by simp)];exact g4
    have I6:=I5.setX (.list (Za vs++[.int u])) g5;have Hd6:Z2 (exS ex5 103 (some (.list (Za vs++[.int u])))) (L2 (.x 1)) cells:=by
      obtain ⟨⟨sp,st,a1,a2⟩,a3,a4⟩:=Hd5;exact ⟨⟨sp,st,by rw [Zj (by simp)];exact a1,a2⟩,by rw [Zj (by simp)];exact a3,a4⟩
    refine ⟨by simp [Za] at hl4 ⊢;lia,I5.x g5,_,vs++[u],I6,by rw [Zr];simp [Za],by simp [Za],Hd6,?_,by simp at hl4 ⊢;lia,λn h0 h1=>by rw [Zj h1,k5 n h0,k4 n h0 h1]⟩;intro y hy;rcases List.mem_append.mp hy with q | q
    · exact hv4 y q
    · simp only [List.mem_singleton] at q;subst q;exact hu
  rintro acc σ4 ⟨ex4,vs,I4,g4,rfl,Hd4,hv4,hl4,k4⟩;have hvl:vs.length<=4:=by simp at hl4;lia
  w_fin;refine X9 (I4.x g4) (by simp [Za];lia) ?_;-- the accumulator is let go
  obtain ⟨ex5,I5,Hd5,k5⟩:∃ex5,Inv σ4 L2 ⟨some h,l,ex5⟩/\Z2 ex5 (L2 (.x 1)) cells/\∀n,n≠0->ex5 n=ex n:=by
    refine ⟨exS ex4 103 none,I4.dropX 103,?_,λn h0=>?_⟩
    · obtain ⟨⟨sp,st,a1,a2⟩,a3,a4⟩:=Hd4;exact ⟨⟨sp,st,by rw [Zj (by simp)];exact a1,a2⟩,by rw [Zj (by simp)];exact a3,a4⟩
    · by_cases q:n=103
      · subst q;rw [Zr,h103]
      · rw [Zj q,k4 n h0 q]
  have fix2:Z4 ⟨some h,l,ex⟩ L L2:=λg hg hc=>eL g (λe=>by subst e;exact hc h103);have row5:ex5 2=some (.list (h.nodes.map Zw)):=by rw [k5 2 (by simp)];exact Gh.row
  refine ⟨_,UpdR.tail<|UpdR.tail<|UpdR.tail<|UpdR.tail UpdR.head,?_⟩;w_left;w_left;ktf_call 5;refine Fn.mono (Q4 ok I5 Gh.h1 hs hop hv4 hvl (by rw [k5 100 (by simp)];exact h100)) (by decide) ?_;rintro m σ6 (⟨i,hi,rfl,I6⟩ | ⟨hnew,rfl,L3,h',I6,fix3,H1',hn'⟩)
  · have g6:=I6.x row5;w_fin;refine ⟨by simp,?_⟩;w_fin;refine X4 (by simp [Za];lia) ?_;rw [YT];w_fin;refine p_inl (d:=ndD (op,vs)) (KP hop) (UL Gh.ops) g6 (ndD_v _) ⟨_,rfl,?_⟩;refine ifP (by simpa using KT.2 (List.mem_of_getElem? hi)) ?_;w_fin;tb_from PySem.F.slot_list_index;refine ⟨by simp,?_⟩;w_fin;refine X4 (by simp [Za];lia) ?_;rw [YT];w_fin;refine W2 (d:=ndD (op,vs)) (KP hop) (UL Gh.ops) g6 (ndD_v _) (KT.2 (List.mem_of_getElem? hi)) (by simp;lia) ?_;rw [ndD_idx Gh.h1.nd hi];refine V2 ?_;w_left;w_left;refine ⟨by simp [retV],L2,h,ex5,I6,fix2,⟨Gh.h1,Gh.ops,row5⟩,Hd5,λn h0 _=>k5 n h0,by lia,by lia⟩
  · have e2:L3 (.x 2)=L2 (.x 2):=fix3.x row5;have e1:L3 (.x 1)=L2 (.x 1):=fix3.x Hd5.at1;have g6:σ6 (L2 (.x 2))=some (.list (h.nodes.map Zw)):=by rw [<-e2];exact I6.x row5
    have hno:ndD (op,vs)∉h.nodes.map ndD:=λq=>hnew (KT.1 q);w_fin;refine ⟨by simp,?_⟩;w_fin;refine X4 (by simp [Za];lia) ?_;rw [YT];w_fin;refine p_inl (d:=ndD (op,vs)) (KP hop) (UL Gh.ops) g6 (ndD_v _) ⟨_,rfl,?_⟩;refine ifN (by simpa using hno) ?_;w_left;w_left;tb_from PySem.F.slot_list_append;refine ⟨by simp,?_⟩;w_fin;refine X4 (by simp [Za];lia) ?_;rw [YT];w_fin;refine Z5 g6 (by simp;lia) ⟨rfl,?_⟩;have I7:=I6.setX (.list (h.nodes.map Zw++[Zw (op,vs)])) row5;rw [e2] at I7;w_left;show WS _ _ _ _ _ (σ6.set (L2 (.x 2)) (.list (h.nodes.map Zw++[Zw (op,vs)]))) _ _;generalize hs7:σ6.set (L2 (.x 2)) (.list (h.nodes.map Zw++[Zw (op,vs)]))=σ7 at I7 ⊢;have g7:σ7 (L2 (.x 2))=some (.list (h.nodes.map Zw++[Zw (op,vs)])):=by rw [<-hs7,MH.set_same]
    w_fin;tbr_iter Z1;refine YG g7 (by simp;lia) ?_;w_fin;refine Q2 ?_;refine V2 ?_;w_left;refine ⟨by simp [retV],L3,h',_,I7,fix2.then fix3 ⟨λ_=>rfl,λq=>q,λn hn=>?_⟩,⟨H1',?_,?_⟩,?_,λn h0 h2=>by rw [Zj h2,k5 n h0],by rw [hn'];simp,by rw [hn'];simp⟩
    · by_cases q:n=0
      · subst q;obtain ⟨⟨sp,st,a1,_⟩,_⟩:=Hd5;show ex5 0≠none;rw [a1];simp
      · show ex5 n≠none;rw [k5 n q];exact hn
    · intro x hx;rw [hn'] at hx;rcases List.mem_append.mp hx with q | q
      · exact Gh.ops x q
      · simp only [List.mem_singleton] at q;subst q;exact hop
    · rw [Zr,hn'];simp
    · rw [e1];obtain ⟨⟨sp,st,a1,a2⟩,a3,a4⟩:=Hd5;exact ⟨⟨sp,st,by rw [Zj (by simp)];exact a1,a2⟩,by rw [Zj (by simp)];exact a3,a4⟩
end
set_option tactic.hygienic false
section
variable {w:World} {h0:Heap}
variable {σ:MH} {L:Lay} {h:HS} {s:LS} {ex:Nat->Option Zd}
noncomputable def Ug (k:Int):Dt:=.one (.inr k)
theorem Vs (l:List Int):l.map V.int=(l.map Ug).map Dt.v:=by rw [List.map_map];rfl
theorem Y3 (l:List Int):(l.map Ug).all Dt.ok=true:=by simp [Ug,Dt.ok,kOk]
theorem Wb (l:List Nat):Za l=(l.map λ(i:Nat)=>(i:Int)).map V.int:=by unfold Za;rw [List.map_map];rfl
theorem Vy (l:List Nat):Za l=((l.map λ(i:Nat)=>(i:Int)).map Ug).map Dt.v:=by rw [Wb,Vs]
theorem KD (ok:SysOk (SS w h0)) (I:Inv σ L ⟨some h,some s,ex⟩) (H:HOk h) (K:LOk s) {o:Option Nat} (ho:isL s.ls o) {ha:Addr} {f:NF} (hh:σ ha=some (.list (ZF h.nodes.length f))) (hf:fnd s.ls (root h.ab) o=f) {sp:List Nat} (hsp:∀n∈sp,n<h.nodes.length) :
    Fn (SS w h0) 5 (.ref 551) [.inst 190 (L .ly),Zs o,.ref ha,.tup (Za sp)] σ (λm σ'=>σ'=σ/\m=.bool true):=by
  have h60:=H.small;refine Fn.obs ?_;refine' Fn.introK (k:=4) (ps:=["layers","layer","homes","spots"]) ok ?h1 ?h2 ?h3 ?h4 ?h5 ?h6 ?h7 ?h8 ?h9 ?b ?h10 (ρ₀:=[("layers",some (.inst 190 (L .ly))),("layer",some (Zs o)),("homes",some (.ref ha)),("spots",some (.tup (Za sp))),("n",none)]) ?h11 ?h12
  case h1 | h3 | h4 | h5 | h6 | h7 | h8 | h9 | h11=>exact rfl
  case h2=>kernel_rfl
  case h10=>decide +kernel
  case b=>intro us h;obtain ⟨_,_,_,_,rfl⟩:=len4 h;exact rfl
  intro K_ hK_ F hF hFn;w_fin;ktf_call 4;refine Fn.mono (YH ok I H K ho) (by decide) ?_;rintro m σ1 ⟨D1,ob,hD1,rfl,rfl,js,rfl,nd1,srt1,mem1⟩;tbr_iter XA;tbr_iter Uw;have e0:ZF h.nodes.length f=((List.range h.nodes.length).map λx=>((f x:Nat):Int)).map V.int:=by
    unfold ZF;rw [Wb,List.map_map,List.map_map,List.map_map];rfl
  refine p_set (is:=(List.range h.nodes.length).map λx=>((f x:Nat):Int)) (Ext.set hD1 _ _ hh) e0 (by simp;lia) ?_;intro D2 hD2;w_fin;refine Ko (MH.set_same ..) (by simp;lia) ?_;intro D3 js2 hD3 nd2 mem2 srt2;have ejs:js=js2:=Jr nd1 nd2 srt1 srt2 λk=>by
    rw [mem1,mem2,hf];simp only [List.mem_map,List.mem_range];exact ⟨λ⟨a,ha,e⟩=>⟨a,ha,e.symm⟩,λ⟨a,ha,e⟩=>⟨a,ha,e.symm⟩⟩
  have E3:Ext σ (((σ.set D1 (.list (js.map V.int))).set D2 (.set ((List.range h.nodes.length).map λx=>((f x:Nat):Int)))).set D3 (.list (js2.map V.int))):=(Ext.set hD1).trans ((Ext.set hD2).trans (Ext.set hD3));refine Wf (as:=js.map Ug) (bs:=js2.map Ug) (Y3 _) (Y3 _) (Ext.set hD3 _ _ (Ext.set hD2 _ _ (MH.set_same ..))) (MH.set_same ..) (Vs _) (Vs _) ⟨_,rfl,?_⟩;refine ifN (by simp [ejs]) ?_;generalize (((σ.set D1 (.list (js.map V.int))).set D2 (.set ((List.range h.nodes.length).map λx=>((f x:Nat):Int)))).set D3 (.list (js2.map V.int)))=σ3 at E3 ⊢;w_fin;refine Xq (λ_=>by exact rfl) (itT ?_);w_fin;refine ⟨_,rfl,.inr ⟨rfl,rfl⟩,λits ρ σ4=>E2 λrest o1=>A4 ((∀n∈rest,n<h.nodes.length)) (its=Za rest) (Ext σ σ4) (ρ=([("layers",some (.inst 190 (L .ly))),("layer",some (Zs o)),("homes",some (.ref ha)),("spots",some (.tup (Za sp))),("n",o1)]:Rho)),⟨sp,none,hsp,rfl,E3,rfl⟩,λ_ _ _ _=>trivial,?_,?_⟩
  · rintro v its Kc hKc ρ σ4 ⟨rest,o1,hr,e1,E4,rfl⟩;cases rest with
    | nil=>simp [Za] at e1
    | cons j rest=>
      simp only [Za,List.map_cons,List.cons.injEq] at e1;obtain ⟨rfl,rfl⟩:=e1;have hj:=hr j List.mem_cons_self;have I4:=I.ext E4;have hh4:=E4 _ _ hh;refine ZC (UpdR.tail<|UpdR.tail<|UpdR.tail<|UpdR.tail UpdR.head) (.inl hFn) ?_;w_fin;ktf_call 4;refine Fn.useN (Xj ok I4 H K ho hj) (by decide) ?_;intro D5 hD5;rw [hf];have hh5:=Ext.set (mo:=.list (Za ((List.range h.nodes.length).filter λn=>decide (f n=f j)))) hD5 _ _ hh4;have g5:=MH.set_same σ4 D5 (.list (Za ((List.range h.nodes.length).filter λn=>decide (f n=f j))));have E5:Ext σ (σ4.set D5 (.list (Za ((List.range h.nodes.length).filter λn=>decide (f n=f j))))):=E4.trans (Ext.set hD5);generalize σ4.set D5 (.list (Za ((List.range h.nodes.length).filter λn=>decide (f n=f j))))=σ5 at hh5 g5 E5 ⊢;refine Wl (λ_=>by exact rfl) hF (by exact rfl) rfl (iEnum ok (bkOf XS hF (by exact rfl) (by decide) (by decide)) rfl ?_);w_fin;refine ⟨ha,_,rfl,hh5,.inl rfl,λl2 hl2=>?_⟩;refine csF (R:=Wh λo1 o2=>[(".0",none),("k",o1),("other",o2),("homes",some (.ref ha)),("n",some (.int j))]) (p:=λv=>match v with | .tup [.int i,_]=>decide (f i.toNat=f j) | _=>false) (f:=λv=>match v with | .tup [.int i,_]=>.int i | v=>v)
        (U5 _ (by exact rfl) VJ (λ_ _ _=>UpdR.tail UpdR.head) (λ_ _ _=>UpdR.tail<|UpdR.tail UpdR.head)
          (λFc h=>by show Fc.env.scope.names.lookup _=_;rw [h];exact rfl) (λFc h=>by show Fc.env.scope.names.lookup _=_;rw [h];exact rfl))
        (by rw [JK];simp [JE];lia) hl2 (λσ2 e=>e _ _ hh5) ?_ ?_ ?_
      · intro Fc hFc hFn' v hv σ7 e7;obtain ⟨i,u,hu,rfl⟩:=XF hv;have hi:i<h.nodes.length:=by have:=(List.getElem?_eq_some_iff.mp hu).1;rwa [JE] at this
        have hu':u=.int (f i):=by have:=Yj (f:=f) hi;simp only [Int.toNat_natCast] at this;rw [this] at hu;cases hu;rfl
        subst hu';rw [Nat.zero_add];have hh7:=e7 _ _ hh5;show WB _ _ _ _ [(".0",none),("k",some (.int i)),("other",some (.int (f i))),("homes",some (.ref ha)),("n",some (.int j))] _ _ _;w_fin;refine ZX hh7 (by lia) (by lia) (Yj hj) ?_ (by exact rfl);refine V2 ⟨_,rfl,rfl,?_⟩;rw [Ws];simp
      · intro Fc hFc hFn' v hv σ7 e7;obtain ⟨i,u,hu,rfl⟩:=XF hv;rw [Nat.zero_add];show WE _ _ _ _ [(".0",none),("k",some (.int i)),("other",some u),("homes",some (.ref ha)),("n",some (.int j))] _ _ _;w_fin;exact ⟨rfl,rfl⟩
      · have el:((Yy 0 (ZF h.nodes.length f)).filter λv=>match v with | .tup [.int i,_]=>decide (f i.toNat=f j) | _=>false).map (λv=>match v with | .tup [.int i,_]=>V.int i | v=>v)=Za ((List.range h.nodes.length).filter λn=>decide (f n=f j)):=by
          rw [X2 (p:=λi=>decide (f i=f j)) (g:=λi=>V.int i) (λi v=>by simp) (λi v=>by simp),JE,<-List.range_eq_range'];rfl
        rw [el];refine Wf (Y3 _) (Y3 _) (Ext.set hl2 _ _ g5) (MH.set_same ..) (Vy _) (Vy _) ⟨_,rfl,?_⟩;refine ifN (by simp) ?_;w_fin;exact ⟨rest,_,λn hn=>hr n (List.mem_cons_of_mem _ hn),rfl,E5.trans (Ext.set hl2),rfl⟩
  · rintro ρ σ4 ⟨rest,o1,hr,e1,E4,rfl⟩;w_fin;exact ⟨E4,rfl⟩
end
set_option tactic.hygienic false
noncomputable abbrev ZZ:=List (Nat×Nat)
noncomputable def Zl (ps:List ZZ):List (Nat×Option Nat×ZZ):=(List.range ps.length).map λi=>(i,(if i=0 then none else some (i-1)),ps.getD i [])
theorem W8 {s:LS} (K:LOk s) {k i:Nat} {u:Option Nat} {t:ZZ} (h:(ZE s.ls)[k]?=some (i,u,t)):∃x,Zb s.ls i=some x/\x.under=u/\x.told=t:=by
  unfold ZE at h;rw [List.getElem?_map] at h;obtain ⟨p,hp,e⟩:=Option.map_eq_some_iff.mp h;simp only [Prod.mk.injEq] at e;obtain ⟨rfl,rfl,rfl⟩:=e;exact ⟨p.2,K.get p (List.mem_of_getElem? hp),rfl,rfl⟩
theorem X3 {s:LS} (K:LOk s) {ps:List ZZ} (h:ZE s.ls=Zl ps) {i:Nat} (hi:i<ps.length):∃x,Zb s.ls i=some x/\x.under=(if i=0 then none else some (i-1))/\x.told=ps.getD i []:=
  W8 K (k:=i) (by rw [h];unfold Zl;simp [hi])
theorem Js {s:LS} (K:LOk s) {ps:List ZZ} (h:ZE s.ls=Zl ps):∀i,i<ps.length->ZV s.ls [] (some i)=(ps.take (i+1)).flatten
  | 0,hi=>by
    obtain ⟨x,hx,hu,ht⟩:=X3 K h hi;rw [Yt K hx,hu,ht];simp only [if_true,Xa,List.nil_append];cases ps with
    | nil=>simp at hi
    | cons p r=>simp
  | i+1,hi=>by
    obtain ⟨x,hx,hu,ht⟩:=X3 K h hi;have e:x.under=some i:=by rw [hu];simp
    rw [Yt K hx,e,Js K h i (by lia),ht,List.take_add_one (i:=i+1),List.flatten_append];simp [List.getD,hi]
theorem Wo {ls:ZK} {ps:List ZZ} (h:ZE ls=Zl ps):ls.length=ps.length:=by
  have:=congrArg List.length h;simpa [ZE,Zl] using this
theorem lst_id {ns:List Zp} (nd:ns.Nodup):Lst ns [] (λx=>x):=(LQ.start nd (P:=[]) (by simp)).fin
set_option tactic.hygienic false
section
variable {w:World} {h0:Heap}
variable {σ:MH} {L:Lay} {h:HS} {s:LS} {ex:Nat->Option Zd}
structure ZL (ex:Nat->Option Zd) (L:Lay) (ps:List ZZ):Prop where
  row:ex 3=some (.list (Za (List.range ps.length)))
  refs:ex 4=some (.list ((List.range ps.length).map λi=>.ref (L (.x (10+i)))))
  each:∀i p,ps[i]?=some p->ex (10+i)=some (.list (p.map Zh))
theorem p_addLP {S:Sys} {F:Frm} {n:Nat×Nat} {ρ:Rho} {σ:MH} {Q:V->MH->Prop} {X:MH->Prop} {a b:Addr} {p q:ZZ} (ha:σ a=some (.list (p.map Zh))) (hb:σ b=some (.list (q.map Zh))) (hz:p.length+q.length<=1000000) (k:∀D,σ D=none->Q (.ref D) (σ.set D (.list ((p++q).map Zh)))):Z6 S F n (binaryOp .Add) (.ref a) (.ref b) ρ σ Q X:=
  p_addL ha hb (by simpa using hz) λD hD=>by have:=k D hD;rwa [List.map_append] at this
theorem Qj (ok:SysOk (SS w h0)) (I:Inv σ L ⟨some h,some s,ex⟩) (Gh:GH h ex) (hpos:0<h.nodes.length) (K:LOk s) {ps:List ZZ} (Tw:ZL ex L ps) (hc:ZE s.ls=Zl ps) (VV:LV h.nodes [] (root h.ab) s.ls Xi)
    (hps:∀p∈ps,∀q∈p,q.1<h.nodes.length/\q.2<h.nodes.length) (hpz:ps.flatten.length<=1000) (ht:ps.length<=20) {spot:Nat} (hspot:spot<h.nodes.length) :
    Fn (SS w h0) 6 (.ref 558) [.inst 190 (L .ly),.ref (L (.x 3)),.ref (L (.x 2)),.ref (L (.x 4)),.int spot] σ (λm σ'=>σ'=σ/\m=.bool true):=by
  have H:=Gh.h1.ok;have h60:=H.small;have hrt:=Gh.h1.root;have gn:=I.x Gh.row;have gt:=I.x Tw.row;have gr:=I.x Tw.refs;refine Fn.obs ?_;refine' Fn.introK (k:=5) (ps:=["layers","tower","nodes","pairs","spot"]) ok ?h1 ?h2 ?h3 ?h4 ?h5 ?h6 ?h7 ?h8 ?h9 ?b ?h10 (ρ₀:=[("layers",some (.inst 190 (L .ly))),("tower",some (.ref (L (.x 3)))),("nodes",some (.ref (L (.x 2)))),("pairs",some (.ref (L (.x 4)))),("spot",some (.int spot)),("told",none),("spots",none),("place",none),("layer",none)]) ?h11 ?h12
  case h1 | h3 | h4 | h5 | h6 | h7 | h8 | h9 | h11=>exact rfl
  case h2=>kernel_rfl
  case h10=>decide +kernel
  case b=>intro us h;obtain ⟨_,_,_,_,_,rfl⟩:=len5 h;exact rfl
  intro K_ hK_ F hF hFn;w_fin;refine Jb (xs:=["told","spots"]) hFn ?_ (by exact rfl) (by rw [Zy hF];exact rfl);w_fin;refine ⟨by simp,λta hta=>?_⟩;w_fin;tbr_iter Z1;refine YG (Ext.set hta _ _ gn) (by simp;lia) ?_;w_fin;refine Q2 ?_;w_fin;refine ⟨by simp,?_⟩;w_fin;have esp:V.tup [.int spot,.int (((h.nodes.map Zw).length:Int)-1)]=.tup (Za [spot,h.nodes.length-1]):=by
    simp [Za];lia
  rw [esp];refine ⟨by simp,_,_,rfl,rfl,⟨_,UpdR.tail<|UpdR.tail<|UpdR.tail<|UpdR.tail<|UpdR.tail<|UpdR.tail UpdR.head,_,UpdR.tail<|UpdR.tail<|UpdR.tail<|UpdR.tail<|UpdR.tail UpdR.head,rfl⟩,?_⟩;have hsp:∀n∈[spot,h.nodes.length-1],n<h.nodes.length:=by simp;lia
  have gta:=MH.set_same σ ta (.list []);have E1:Ext σ (σ.set ta (.list [])):=Ext.set hta;generalize σ.set ta (.list [])=σ1 at gta E1 ⊢;w_fin;refine Xu ?_ (by exact rfl);ktn_call Xc Xe;tbr_iter WF;tbr_iter YK;tbr_iter Z1;refine YG (E1 _ _ gn) (by simp;lia) ?_;w_fin;refine Y2 ?_;w_fin;refine U0 (by simp;lia) λba hba=>?_;have e0:YC 0 (h.nodes.map Zw).length=ZF h.nodes.length (λx=>x):=by
    rw [YR,List.length_map];simp [ZF,Za]
  rw [e0];w_fin;refine Fn.useP (KD ok (I.ext (E1.trans (Ext.set hba))) H K (o:=none) trivial (MH.set_same ..) (by rw [KU,hrt]) hsp) (by decide) ?_;refine ⟨_,rfl,?_⟩;refine ifN (by simp) ?_;have gta2:=Ext.set (mo:=.list (ZF h.nodes.length (λx=>x))) hba _ _ gta;have E2:Ext σ (σ1.set ba (.list (ZF h.nodes.length (λx=>x)))):=E1.trans (Ext.set hba);generalize σ1.set ba (.list (ZF h.nodes.length (λx=>x)))=σ2 at gta2 E2 ⊢;w_fin;refine Xq (λ_=>by exact rfl) (iEnum ok (bkOf XS hF (by exact rfl) (by decide) (by decide)) rfl ?_);w_fin;refine ⟨L (.x 3),_,rfl,E2 _ _ gt,.inl rfl,λits ρ σ4=>E4 λk ta o1 o2=>A5 (k<=ps.length) (its=Yy k (Za (List.range' k (ps.length-k)))) (Ext σ σ4) (σ4 ta=some (.list ((ps.take k).flatten.map Zh))) (ρ=([("layers",some (.inst 190 (L .ly))),("tower",some (.ref (L (.x 3)))),("nodes",some (.ref (L (.x 2)))),("pairs",some (.ref (L (.x 4)))),("spot",some (.int spot)),("told",some (.ref ta)),("spots",some (.tup (Za [spot,h.nodes.length-1]))),("place",o1),("layer",o2)]:Rho)),
    ⟨0,ta,none,none,by lia,by rw [List.range_eq_range'];rfl,E2,by simpa using gta2,rfl⟩,λits ρ σ4 ⟨_,_,_,_,_,_,E,_,_⟩=>E _ _ gt,?_,?_⟩
  · rintro v its Kc hKc ρ σ4 ⟨k,ta,o1,o2,hk,e1,E4,g4,rfl⟩;by_cases hkt:k<ps.length
    case neg=>
      have:ps.length-k=0:=by lia
      rw [this] at e1;simp [Za,Yy] at e1
    rw [show ps.length-k=(ps.length-(k+1))+1 by lia,List.range'_succ] at e1;simp only [Za,List.map_cons,Yy,List.cons.injEq] at e1;obtain ⟨rfl,rfl⟩:=e1;obtain ⟨p,hp⟩:∃p,ps[k]?=some p:=⟨_,List.getElem?_eq_getElem hkt⟩;obtain ⟨x,hx,hu,htold⟩:=X3 K hc hkt;have gp:=E4 _ _ (I.x (Tw.each k p hp));have etake:(ps.take k).flatten++p=(ps.take (k+1)).flatten:=by
      rw [List.take_add_one,hp];simp
    have hlen:(ps.take (k+1)).flatten.length<=1000:=by
      have:(ps.take (k+1)).flatten.length<=ps.flatten.length:=by
        conv=>rhs;rw [<-List.take_append_drop (k+1) ps,List.flatten_append,List.length_append]
        lia
      lia
    have hin:∀q∈(ps.take (k+1)).flatten,q.1<h.nodes.length/\q.2<h.nodes.length:=by
      intro q hq;obtain ⟨l,hl,hql⟩:=List.mem_flatten.mp hq;exact hps l (List.mem_of_mem_take hl) q hql
    refine WJ (by exact rfl) (by exact rfl) ZW trivial ?_;refine ZC (UpdR.tail<|UpdR.tail<|UpdR.tail<|UpdR.tail<|UpdR.tail<|UpdR.tail<|UpdR.tail UpdR.head) (.inl hFn) ?_;refine ZC (UpdR.tail<|UpdR.tail<|UpdR.tail<|UpdR.tail<|UpdR.tail<|UpdR.tail<|UpdR.tail<|UpdR.tail UpdR.head) (.inl hFn) ?_;w_left;w_left;w_fin;refine ZX (E4 _ _ gr) (by lia) (by lia) (v:=.ref (L (.x (10+k)))) (by simp [hkt]) ?_ (by exact rfl);refine p_addLP g4 gp ?_ λta2 hta2=>?_
    · rw [<-etake] at hlen;simp at hlen ⊢;lia
    rw [etake];refine ⟨_,UpdR.tail<|UpdR.tail<|UpdR.tail<|UpdR.tail<|UpdR.tail UpdR.head,?_⟩;have g5:=MH.set_same σ4 ta2 (.list ((ps.take (k+1)).flatten.map Zh));have E5:Ext σ (σ4.set ta2 (.list ((ps.take (k+1)).flatten.map Zh))):=E4.trans (Ext.set hta2);generalize σ4.set ta2 (.list ((ps.take (k+1)).flatten.map Zh))=σ5 at g5 E5 ⊢;w_left;w_left;w_fin;refine Xu ?_ (by exact rfl);ktn_call Xc Xe;ktn_call JW JO;refine Fn.mono (Ww ok (E5 _ _ gn) g5 Gh.h1.nd Gh.ops (λi nd hi=>H.kids i nd hi) h60 hin hlen) (by decide) ?_;rintro m σ6 ⟨D6,ob,hD6,rfl,rfl,f,rfl,Lf⟩;w_fin;have Lx:=VV.each k x hx id;rw [Js K hc k hkt] at Lx;have ef:fnd s.ls (root h.ab) (some k)=f:=Lx.uniq Lf λ_=>Iff.rfl;refine Fn.useP (KD ok (I.ext (E5.trans (Ext.set hD6))) H K (o:=some k) ⟨x,hx⟩ (MH.set_same ..) ef hsp) (by decide) ?_;refine ⟨_,rfl,?_⟩;refine ifN (by simp) ?_;w_fin;exact ⟨k+1,ta2,_,_,by lia,rfl,E5.trans (Ext.set hD6),Ext.set hD6 _ _ g5,rfl⟩
  · rintro ρ σ4 ⟨k,ta,o1,o2,hk,e1,E4,g4,rfl⟩;w_fin;exact ⟨E4,rfl⟩
end
set_option tactic.hygienic false
theorem Wa (s:LS) (o:Option Nat):ZE (newL s o).ls=ZE s.ls++[(s.many,o,[])]:=by simp [ZE,newL]
theorem VN (k:Nat):Zl (List.replicate (k+1) [])=Zl (List.replicate k [])++[(k,(if k=0 then none else some (k-1)),[])]:=by
  unfold Zl;simp only [List.length_replicate,List.range_succ,List.map_append,List.map_cons,List.map_nil];congr 1
  · apply List.map_congr_left;intro i hi;have:i<k:=by simpa using hi
    simp [List.getD,List.getElem?_replicate,this,show i<k+1 by lia]
  · simp [List.getD,List.getElem?_replicate]
theorem Wg (ls:ZK) (i:Nat) (p:Nat×Nat):ZE (Xl ls i p)=(ZE ls).map λc=>if c.1=i then (c.1,c.2.1,c.2.2++[p]) else c:=by
  unfold ZE Xl Xw;rw [List.map_map,List.map_map];apply List.map_congr_left;intro x _;simp only [Function.comp];(set_option tactic.hygienic true in split) <;> rfl
theorem VM {ps:List ZZ} {i:Nat} {t:ZZ} (h:ps[i]?=some t) (p:Nat×Nat):(Zl ps).map (λc=>if c.1=i then (c.1,c.2.1,c.2.2++[p]) else c)=Zl (ps.set i (t++[p])):=by
  unfold Zl;rw [List.map_map,List.length_set];apply List.map_congr_left;intro j hj;have hj':j<ps.length:=by simpa using hj
  have hi:=(List.getElem?_eq_some_iff.mp h).1;simp only [Function.comp];by_cases q:j=i
  · subst q;have e1:ps.getD j []=t:=by simp only [List.getD,h,Option.getD_some]
    have e2:(ps.set j (t++[p])).getD j []=t++[p]:=by simp only [List.getD,List.getElem?_set,hi,if_true,Option.getD_some]
    rw [if_pos rfl,e1,e2]
  · have:¬ i=j:=λe=>q e.symm;simp [List.getD,q,this,List.getElem?_set]
theorem KH {ps:List ZZ} {i:Nat} {t:ZZ} (h:ps[i]?=some t) (p:Nat×Nat):(ps.set i (t++[p])).flatten.length=ps.flatten.length+1:=by
  induction ps generalizing i with
  | nil=>simp at h
  | cons a r ih=>
    cases i with
    | zero=>simp at h;subst h;simp;lia
    | succ i=>simp at h;simp [ih h];lia
noncomputable def ZA (ps:List ZZ) (done:ZZ):List (Nat×Option Nat×ZZ):=Zl ps++[(ps.length,none,done)]
theorem Vk (ps:List ZZ) (done:ZZ) (p:Nat×Nat):(ZA ps done).map (λc=>if c.1=ps.length then (c.1,c.2.1,c.2.2++[p]) else c)=ZA ps (done++[p]):=by
  unfold ZA;rw [List.map_append];congr 1
  · conv=>rhs;rw [<-List.map_id (Zl ps)]
    apply List.map_congr_left;intro c hc;unfold Zl at hc;obtain ⟨i,hi,rfl⟩:=List.mem_map.mp hc;have:i<ps.length:=by simpa using hi
    rw [if_neg (by simp only;lia)];rfl
  · simp
theorem Jf {s:LS} (K:LOk s) {ps:List ZZ} {done:ZZ} (h:ZE s.ls=ZA ps done):∃x,Zb s.ls ps.length=some x/\x.under=none/\x.told=done:=
  W8 K (k:=ps.length) (by rw [h];unfold ZA Zl;simp)
theorem Jm {s:LS} (K:LOk s) {ps:List ZZ} {done:ZZ} (h:ZE s.ls=ZA ps done) {i:Nat} (hi:i<ps.length):∃x,Zb s.ls i=some x/\x.under=(if i=0 then none else some (i-1))/\x.told=ps.getD i []:=
  W8 K (k:=i) (by rw [h];unfold ZA Zl;rw [List.getElem?_append_left (by simpa using hi)];simp [hi])
theorem Kz {s:LS} (K:LOk s) {ps:List ZZ} {done:ZZ} (h:ZE s.ls=ZA ps done):∀i,i<ps.length->ZV s.ls [] (some i)=(ps.take (i+1)).flatten
  | 0,hi=>by
    obtain ⟨x,hx,hu,ht⟩:=Jm K h hi;rw [Yt K hx,hu,ht];simp only [if_true,Xa,List.nil_append];cases ps with
    | nil=>simp at hi
    | cons p r=>simp
  | i+1,hi=>by
    obtain ⟨x,hx,hu,ht⟩:=Jm K h hi;have e:x.under=some i:=by rw [hu];simp
    rw [Yt K hx,e,Kz K h i (by lia),ht,List.take_add_one (i:=i+1),List.flatten_append];simp [List.getD,hi]
theorem QG {s:LS} (K:LOk s) {ps:List ZZ} {done:ZZ} (h:ZE s.ls=ZA ps done):ZV s.ls [] (some ps.length)=done:=by
  obtain ⟨x,hx,hu,ht⟩:=Jf K h;rw [Yt K hx,hu,ht,Xa,List.nil_append]
theorem Ul {ns:List Zp} {hf:NF} {s:LS} (K:LOk s) {ps:List ZZ} {done:ZZ} (h:ZE s.ls=ZA ps done) (v:LV ns [] hf s.ls Xi) (hp:0<ps.length) (hd:∀q,q∈done ↔ q∈ps.flatten) :
    fnd s.ls hf (some ps.length)=fnd s.ls hf (some (ps.length-1)):=by
  obtain ⟨x,hx,_⟩:=Jf K h;obtain ⟨y,hy,_⟩:=Jm K h (i:=ps.length-1) (by lia);have a:=v.each _ x hx id;have b:=v.each _ y hy id;rw [QG K h] at a;rw [Kz K h (ps.length-1) (by lia),show ps.length-1+1=ps.length by lia,List.take_length] at b;exact a.uniq b hd
theorem UH {s:LS} {ps:List ZZ} (h:ZE s.ls=Zl ps) {i:Nat} {x:LI} (hx:Zb s.ls i=some x):i<ps.length/\x.told=ps.getD i []:=by
  have hm:(i,x.under,x.told)∈ZE s.ls:=by unfold ZE;exact List.mem_map_of_mem (f:=λp:Nat×LI=>(p.1,p.2.under,p.2.told)) (ZP hx).1
  rw [h] at hm;unfold Zl at hm;obtain ⟨j,hj,e⟩:=List.mem_map.mp hm;simp only [Prod.mk.injEq] at e;obtain ⟨rfl,_,e⟩:=e;exact ⟨by simpa using hj,e.symm⟩
theorem Kv {s:LS} {ps:List ZZ} (h:ZE s.ls=Zl ps) {n:Nat} (hps:∀p∈ps,∀q∈p,q.1<n/\q.2<n):∀i x,Zb s.ls i=some x->∀q∈x.told,q.1<n/\q.2<n:=by
  intro i x hx q hq;obtain ⟨hi,e⟩:=UH h hx;rw [e] at hq;exact hps (ps.getD i []) (by simp [List.getD,hi]) q hq
theorem set_range {ps:List ZZ} {i:Nat} {t:ZZ} (h:ps[i]?=some t) {a b n:Nat} (ha:a<n) (hb:b<n) (hps:∀p∈ps,∀q∈p,q.1<n/\q.2<n):∀p∈ps.set i (t++[(a,b)]),∀q∈p,q.1<n/\q.2<n:=by
  intro p hp q hq;rcases List.mem_or_eq_of_mem_set hp with h1 | rfl
  · exact hps p h1 q hq
  · rcases List.mem_append.mp hq with h2 | h2
    · exact hps t (List.mem_of_getElem? h) q h2
    · simp only [List.mem_singleton] at h2;subst h2;exact ⟨ha,hb⟩
theorem J1 {ps:List ZZ} {k:Nat} (hk:k<=ps.length) (L:Nat->Addr):((List.range k).map λi=>(L i,(ps.getD i []).map Zh)).flatMap (·.2)=(ps.take k).flatten.map Zh:=by
  induction k with
  | zero=>simp
  | succ k ih=>
    have hk':k<ps.length:=by lia
    rw [List.range_succ,List.map_append,List.flatMap_append,ih (by lia),List.take_add_one,List.flatten_append,List.map_append];simp [List.getD,hk']
theorem take_range {t k:Nat} (hk:k<=t) (f:Nat->V):((List.range t).map f).take k=(List.range k).map f:=by
  rw [<-List.map_take,List.take_range,Nat.min_eq_left hk]
theorem W6 {s:LS} {ps:List ZZ} {done:ZZ} (h:ZE s.ls=ZA ps done) {n:Nat} (hps:∀p∈ps,∀q∈p,q.1<n/\q.2<n) (hd:∀q∈done,q.1<n/\q.2<n):∀i x,Zb s.ls i=some x->∀q∈x.told,q.1<n/\q.2<n:=by
  intro i x hx q hq;have hm:(i,x.under,x.told)∈ZE s.ls:=by unfold ZE;exact List.mem_map_of_mem (f:=λp:Nat×LI=>(p.1,p.2.under,p.2.told)) (ZP hx).1
  rw [h] at hm;unfold ZA at hm;rcases List.mem_append.mp hm with hm | hm
  · unfold Zl at hm;obtain ⟨j,hj,e⟩:=List.mem_map.mp hm;simp only [Prod.mk.injEq] at e;obtain ⟨rfl,_,e⟩:=e;have hj':j<ps.length:=by simpa using hj
    rw [<-e] at hq;exact hps (ps.getD j []) (by simp [List.getD,hj']) q hq
  · simp only [List.mem_singleton,Prod.mk.injEq] at hm;obtain ⟨_,_,e⟩:=hm;rw [e] at hq;exact hd q hq
set_option tactic.hygienic false
section
variable {w:World} {h0:Heap}
variable {σ:MH}
noncomputable def abc:List Zp:=[("a",[]),("b",[]),("c",[])]
theorem abc_at:∀k,k<3->∃op,op∈ops/\abc[k]?=some (op,[])/\(op,[])∉abc.take k/\abc.drop k=(op,[])::abc.drop (k+1)/\abc.take k++[(op,[])]=abc.take (k+1)
  | 0,_=>⟨"a",by decide +kernel,rfl,by decide +kernel,rfl,rfl⟩
  | 1,_=>⟨"b",by decide +kernel,rfl,by decide +kernel,rfl,rfl⟩
  | 2,_=>⟨"c",by decide +kernel,rfl,by decide +kernel,rfl,rfl⟩
noncomputable def ZR (sa a0 d a2:Addr) (node lap layers tower place pairs a b homes single top:Option V):Rho:=
  [("script",some (.ref sa)),("hand",some (.ref a0)),("heap_now",some (.inst 520 d)),("nodes",some (.ref a2)),("node",node),("lap",lap),("layers",layers),("tower",tower),("place",place),("pairs",pairs),("a",a),("b",b),("homes",homes),("single",single),("top",top)]
namespace R16
section
variable {sa a0 d a2:Addr} {node lap layers tower place pairs a b homes single top:Option V} {m:V}
theorem rl_m0:(("script":Str),some (V.ref sa))∈ZR sa a0 d a2 node lap layers tower place pairs a b homes single top:=List.mem_cons_self
theorem rl_m1:(("hand":Str),some (V.ref a0))∈ZR sa a0 d a2 node lap layers tower place pairs a b homes single top:=List.mem_cons_of_mem _ List.mem_cons_self
theorem rl_m2:(("heap_now":Str),some (V.inst 520 d))∈ZR sa a0 d a2 node lap layers tower place pairs a b homes single top:=List.mem_cons_of_mem _ (List.mem_cons_of_mem _ List.mem_cons_self)
theorem rl_m3:(("nodes":Str),some (V.ref a2))∈ZR sa a0 d a2 node lap layers tower place pairs a b homes single top:=List.mem_cons_of_mem _ (List.mem_cons_of_mem _ (List.mem_cons_of_mem _ List.mem_cons_self))
theorem rl_m4:(("node":Str),some m)∈ZR sa a0 d a2 (some m) lap layers tower place pairs a b homes single top:=List.mem_cons_of_mem _ (List.mem_cons_of_mem _ (List.mem_cons_of_mem _ (List.mem_cons_of_mem _ List.mem_cons_self)))
theorem rl_u4:UpdR (ZR sa a0 d a2 node lap layers tower place pairs a b homes single top) "node" m (ZR sa a0 d a2 (some m) lap layers tower place pairs a b homes single top):=UpdR.tail (UpdR.tail (UpdR.tail (UpdR.tail (UpdR.head))))
theorem rl_m5:(("lap":Str),some m)∈ZR sa a0 d a2 node (some m) layers tower place pairs a b homes single top:=List.mem_cons_of_mem _ (List.mem_cons_of_mem _ (List.mem_cons_of_mem _ (List.mem_cons_of_mem _ (List.mem_cons_of_mem _ List.mem_cons_self))))
theorem rl_u5:UpdR (ZR sa a0 d a2 node lap layers tower place pairs a b homes single top) "lap" m (ZR sa a0 d a2 node (some m) layers tower place pairs a b homes single top):=UpdR.tail (UpdR.tail (UpdR.tail (UpdR.tail (UpdR.tail (UpdR.head)))))
theorem rl_m6:(("layers":Str),some m)∈ZR sa a0 d a2 node lap (some m) tower place pairs a b homes single top:=List.mem_cons_of_mem _ (List.mem_cons_of_mem _ (List.mem_cons_of_mem _ (List.mem_cons_of_mem _ (List.mem_cons_of_mem _ (List.mem_cons_of_mem _ List.mem_cons_self)))))
theorem rl_u6:UpdR (ZR sa a0 d a2 node lap layers tower place pairs a b homes single top) "layers" m (ZR sa a0 d a2 node lap (some m) tower place pairs a b homes single top):=UpdR.tail (UpdR.tail (UpdR.tail (UpdR.tail (UpdR.tail (UpdR.tail (UpdR.head))))))
theorem rl_m7:(("tower":Str),some m)∈ZR sa a0 d a2 node lap layers (some m) place pairs a b homes single top:=List.mem_cons_of_mem _ (List.mem_cons_of_mem _ (List.mem_cons_of_mem _ (List.mem_cons_of_mem _ (List.mem_cons_of_mem _ (List.mem_cons_of_mem _ (List.mem_cons_of_mem _ List.mem_cons_self))))))
theorem rl_u7:UpdR (ZR sa a0 d a2 node lap layers tower place pairs a b homes single top) "tower" m (ZR sa a0 d a2 node lap layers (some m) place pairs a b homes single top):=UpdR.tail (UpdR.tail (UpdR.tail (UpdR.tail (UpdR.tail (UpdR.tail (UpdR.tail (UpdR.head)))))))
theorem rl_m8:(("place":Str),some m)∈ZR sa a0 d a2 node lap layers tower (some m) pairs a b homes single top:=List.mem_cons_of_mem _ (List.mem_cons_of_mem _ (List.mem_cons_of_mem _ (List.mem_cons_of_mem _ (List.mem_cons_of_mem _ (List.mem_cons_of_mem _ (List.mem_cons_of_mem _ (List.mem_cons_of_mem _ List.mem_cons_self)))))))
theorem rl_u8:UpdR (ZR sa a0 d a2 node lap layers tower place pairs a b homes single top) "place" m (ZR sa a0 d a2 node lap layers tower (some m) pairs a b homes single top):=UpdR.tail (UpdR.tail (UpdR.tail (UpdR.tail (UpdR.tail (UpdR.tail (UpdR.tail (UpdR.tail (UpdR.head))))))))
theorem rl_m9:(("pairs":Str),some m)∈ZR sa a0 d a2 node lap layers tower place (some m) a b homes single top:=List.mem_cons_of_mem _ (List.mem_cons_of_mem _ (List.mem_cons_of_mem _ (List.mem_cons_of_mem _ (List.mem_cons_of_mem _ (List.mem_cons_of_mem _ (List.mem_cons_of_mem _ (List.mem_cons_of_mem _ (List.mem_cons_of_mem _ List.mem_cons_self))))))))
theorem rl_u9:UpdR (ZR sa a0 d a2 node lap layers tower place pairs a b homes single top) "pairs" m (ZR sa a0 d a2 node lap layers tower place (some m) a b homes single top):=UpdR.tail (UpdR.tail (UpdR.tail (UpdR.tail (UpdR.tail (UpdR.tail (UpdR.tail (UpdR.tail (UpdR.tail (UpdR.head)))))))))
theorem rl_m10:(("a":Str),some m)∈ZR sa a0 d a2 node lap layers tower place pairs (some m) b homes single top:=List.mem_cons_of_mem _ (List.mem_cons_of_mem _ (List.mem_cons_of_mem _ (List.mem_cons_of_mem _ (List.mem_cons_of_mem _ (List.mem_cons_of_mem _ (List.mem_cons_of_mem _ (List.mem_cons_of_mem _ (List.mem_cons_of_mem _ (List.mem_cons_of_mem _ List.mem_cons_self)))))))))
theorem rl_u10:UpdR (ZR sa a0 d a2 node lap layers tower place pairs a b homes single top) "a" m (ZR sa a0 d a2 node lap layers tower place pairs (some m) b homes single top):=UpdR.tail (UpdR.tail (UpdR.tail (UpdR.tail (UpdR.tail (UpdR.tail (UpdR.tail (UpdR.tail (UpdR.tail (UpdR.tail (UpdR.head))))))))))
theorem rl_m11:(("b":Str),some m)∈ZR sa a0 d a2 node lap layers tower place pairs a (some m) homes single top:=List.mem_cons_of_mem _ (List.mem_cons_of_mem _ (List.mem_cons_of_mem _ (List.mem_cons_of_mem _ (List.mem_cons_of_mem _ (List.mem_cons_of_mem _ (List.mem_cons_of_mem _ (List.mem_cons_of_mem _ (List.mem_cons_of_mem _ (List.mem_cons_of_mem _ (List.mem_cons_of_mem _ List.mem_cons_self))))))))))
theorem rl_u11:UpdR (ZR sa a0 d a2 node lap layers tower place pairs a b homes single top) "b" m (ZR sa a0 d a2 node lap layers tower place pairs a (some m) homes single top):=UpdR.tail (UpdR.tail (UpdR.tail (UpdR.tail (UpdR.tail (UpdR.tail (UpdR.tail (UpdR.tail (UpdR.tail (UpdR.tail (UpdR.tail (UpdR.head)))))))))))
theorem rl_m12:(("homes":Str),some m)∈ZR sa a0 d a2 node lap layers tower place pairs a b (some m) single top:=List.mem_cons_of_mem _ (List.mem_cons_of_mem _ (List.mem_cons_of_mem _ (List.mem_cons_of_mem _ (List.mem_cons_of_mem _ (List.mem_cons_of_mem _ (List.mem_cons_of_mem _ (List.mem_cons_of_mem _ (List.mem_cons_of_mem _ (List.mem_cons_of_mem _ (List.mem_cons_of_mem _ (List.mem_cons_of_mem _ List.mem_cons_self)))))))))))
theorem rl_u12:UpdR (ZR sa a0 d a2 node lap layers tower place pairs a b homes single top) "homes" m (ZR sa a0 d a2 node lap layers tower place pairs a b (some m) single top):=UpdR.tail (UpdR.tail (UpdR.tail (UpdR.tail (UpdR.tail (UpdR.tail (UpdR.tail (UpdR.tail (UpdR.tail (UpdR.tail (UpdR.tail (UpdR.tail (UpdR.head))))))))))))
theorem rl_m13:(("single":Str),some m)∈ZR sa a0 d a2 node lap layers tower place pairs a b homes (some m) top:=List.mem_cons_of_mem _ (List.mem_cons_of_mem _ (List.mem_cons_of_mem _ (List.mem_cons_of_mem _ (List.mem_cons_of_mem _ (List.mem_cons_of_mem _ (List.mem_cons_of_mem _ (List.mem_cons_of_mem _ (List.mem_cons_of_mem _ (List.mem_cons_of_mem _ (List.mem_cons_of_mem _ (List.mem_cons_of_mem _ (List.mem_cons_of_mem _ List.mem_cons_self))))))))))))
theorem rl_u13:UpdR (ZR sa a0 d a2 node lap layers tower place pairs a b homes single top) "single" m (ZR sa a0 d a2 node lap layers tower place pairs a b homes (some m) top):=UpdR.tail (UpdR.tail (UpdR.tail (UpdR.tail (UpdR.tail (UpdR.tail (UpdR.tail (UpdR.tail (UpdR.tail (UpdR.tail (UpdR.tail (UpdR.tail (UpdR.tail (UpdR.head)))))))))))))
theorem rl_m14:(("top":Str),some m)∈ZR sa a0 d a2 node lap layers tower place pairs a b homes single (some m):=List.mem_cons_of_mem _ (List.mem_cons_of_mem _ (List.mem_cons_of_mem _ (List.mem_cons_of_mem _ (List.mem_cons_of_mem _ (List.mem_cons_of_mem _ (List.mem_cons_of_mem _ (List.mem_cons_of_mem _ (List.mem_cons_of_mem _ (List.mem_cons_of_mem _ (List.mem_cons_of_mem _ (List.mem_cons_of_mem _ (List.mem_cons_of_mem _ (List.mem_cons_of_mem _ List.mem_cons_self)))))))))))))
theorem rl_u14:UpdR (ZR sa a0 d a2 node lap layers tower place pairs a b homes single top) "top" m (ZR sa a0 d a2 node lap layers tower place pairs a b homes single (some m)):=UpdR.tail (UpdR.tail (UpdR.tail (UpdR.tail (UpdR.tail (UpdR.tail (UpdR.tail (UpdR.tail (UpdR.tail (UpdR.tail (UpdR.tail (UpdR.tail (UpdR.tail (UpdR.tail (UpdR.head))))))))))))))
end
end R16
open R16
theorem YW {L L':Lay} {h:HS} {l:Option LS} {ex:Nat->Option Zd} {cells:List Int} {a1:Addr} (f:Z4 ⟨some h,l,ex⟩ L L') (Hd:Z2 ex a1 cells) (Gh:GH h ex):L' (.x 0)=L (.x 0)/\L' (.x 1)=L (.x 1)/\L' (.x 2)=L (.x 2)/\L' .d=L .d:=by
  obtain ⟨⟨sp,st,q1,_⟩,q2,_⟩:=Hd;exact ⟨f.x q1,f.x q2,f.x Gh.row,f .d rfl snn⟩
theorem Z2.put {ex:Nat->Option Zd} {a:Addr} {cells:List Int} (Hd:Z2 ex a cells) {n:Nat} (o:Option Zd) (hn:2<=n):Z2 (exS ex n o) a cells:=by
  obtain ⟨⟨sp,st,q1,q2⟩,q3,q4⟩:=Hd;exact ⟨⟨sp,st,by rw [Zj (by first | decide | lia)];exact q1,q2⟩,by rw [Zj (by first | decide | lia)];exact q3,q4⟩
theorem GH.put {h:HS} {ex:Nat->Option Zd} (G:GH h ex) {n:Nat} (o:Option Zd) (hn:3<=n):GH h (exS ex n o):=⟨G.h1,G.ops,by rw [Zj (by first | decide | lia)];exact G.row⟩
theorem ZL.move {ex ex':Nat->Option Zd} {L L':Lay} {ps:List ZZ} (T:ZL ex L ps) (h:∀n,3<=n->ex' n=ex n) (hl:∀i,i<ps.length->L' (.x (10+i))=L (.x (10+i))):ZL ex' L' ps:=by
  refine ⟨by rw [h 3 (by first | decide | lia)];exact T.row,?_,λi p hp=>by rw [h _ (by first | decide | lia)];exact T.each i p hp⟩;rw [h 4 (by first | decide | lia),T.refs];congr 2;exact List.map_congr_left λi hi=>by rw [hl i (by simpa using hi)]
theorem ZL.fix {ex:Nat->Option Zd} {L L':Lay} {oh:Option HS} {l:Option LS} {ps:List ZZ} (T:ZL ex L ps) (f:Z4 ⟨oh,l,ex⟩ L L'):(∀i,i<ps.length->L' (.x (10+i))=L (.x (10+i)))/\L' (.x 3)=L (.x 3)/\L' (.x 4)=L (.x 4):=
  ⟨λi hi=>f.x (T.each i _ (List.getElem?_eq_getElem hi)),f.x T.row,f.x T.refs⟩
theorem ZL.put {ex:Nat->Option Zd} {L:Lay} {ps:List ZZ} (T:ZL ex L ps) {n:Nat} (o:Option Zd) (h3:n≠3) (h4:n≠4) (h:n<10):ZL (exS ex n o) L ps:=
  ⟨by rw [Zj (by first | decide | lia)];exact T.row,by rw [Zj (by first | decide | lia)];exact T.refs,λi p hp=>by rw [Zj (by first | decide | lia)];exact T.each i p hp⟩
theorem ZL.add {ex:Nat->Option Zd} {L:Lay} {ps:List ZZ} (T:ZL ex L ps) {k:Nat} {p:ZZ} (q:Nat×Nat):ZL (exS ex (10+k) (some (.list (p.map Zh++[Zh q])))) L (ps.set k (p++[q])):=by
  refine ⟨by rw [Zj (by first | decide | lia),List.length_set];exact T.row,by rw [Zj (by first | decide | lia),List.length_set];exact T.refs,λi r hr=>?_⟩;rw [List.getElem?_set] at hr;(set_option tactic.hygienic true in split at hr)
  · rename_i e;subst e;(set_option tactic.hygienic true in split at hr)
    · cases hr;rw [Zr];simp
    · cases hr
  · rename_i e;rw [Zj (by first | decide | lia)];exact T.each i r hr
noncomputable def St4 (cells:List Int) (t k:Nat) (A0 A2 A3 A4 Ad Al:Addr) (σ:MH):Prop:=E5 λL h s ex ps=>A20 (Inv σ L ⟨some h,some s,ex⟩) (GH h ex) (Z2 ex (L (.x 1)) cells) (ZL ex L ps) (ps.length=t) (ZE s.ls=Zl ps) (LOk s) (s.many=t) (LV h.nodes [] (root h.ab) s.ls Xi) ((∀p∈ps,∀q∈p,q.1<h.nodes.length/\q.2<h.nodes.length)) (ps.flatten.length<=k) (3<=h.nodes.length) (h.nodes.length<=6+k) ((∀n,5<=n->(n<10\/20<=n)->ex n=none)) (L (.x 0)=A0) (L (.x 2)=A2) (L (.x 3)=A3) (L (.x 4)=A4) (L .d=Ad) (L .ly=Al)
theorem ZN.mono {S:Sys} {F:Frm} {n:Nat×Nat} {f:Value} {ms:List V} {ρ:Rho} {σ:MH} {Q Q':V->MH->Prop} {X:MH->Prop} (h:ZN S F n f ms ρ σ Q X) (k:∀m σ',Q m σ'->Q' m σ'):ZN S F n f ms ρ σ Q' X:=by
  intro us A s hR x r;refine wpAny_mono (h us A s hR x r) ?_ (λ_ _ e=>e);rintro v s' ⟨m,σ',y,z,r,q⟩;exact ⟨m,σ',y,z,r,k m σ' q⟩
set_option maxHeartbeats 1000000 in
theorem law_01 (ok:SysOk (SS w h0)) {sa:Addr} {is:List Int} (B:JC (SS w h0) sa is) (hz:is.length<=1000) :
    Fn (SS w h0) 12 (.ref 563) [.ref sa] σ (λm σ'=>m=.bool true):=by
  have I0:=inv_nil σ (λ_=>0);refine' Fn.introK (k:=11) (ps:=["script"]) ok ?h1 ?h2 ?h3 ?h4 ?h5 ?h6 ?h7 ?h8 ?h9 ?b ?h10 (ρ₀:=[("script",some (.ref sa)),("hand",none),("heap_now",none),("nodes",none),("node",none),("lap",none),("layers",none),("tower",none),("place",none),("pairs",none),("a",none),("b",none),("homes",none),("single",none),("top",none)]) ?h11 ?h12
  case h1 | h3 | h4 | h5 | h6 | h7 | h8 | h9 | h11=>exact rfl
  case h2=>kernel_rfl
  case h10=>decide +kernel
  case b=>intro us h;obtain ⟨_,rfl⟩:=len1 h;exact rfl
  intro K_ hK_ F hF hFn;w_fin;refine Jb (xs:=["hand","heap_now","nodes"]) hFn ?_ (by exact rfl) (by rw [Zy hF];exact rfl);ktn_call Qm Qk;refine Fn.mono (law_hand ok I0 rfl rfl B hz) (by decide) ?_;rintro m σ1 ⟨L1,ex1,cells,I1,rfl,Hd1,k1,fix1⟩;have z1:∀n,n≠0->n≠1->ex1 n=none:=λn a b=>k1 n a b;w_left;refine rNew ok (k:=10) (gkOf gl_Heap (by assumption) (by exact rfl) (by decide)) (by exact rfl) fn_520 (by decide) ?_;w_fin;intro d hd;refine Fn.useV (heap_init ok I1 hd) (by decide) ?_;rintro σ2 ⟨L2,I2,rfl,fix2⟩;refine ⟨rfl,?_⟩;have e20:L2 (.x 0)=L1 (.x 0):=by obtain ⟨⟨sp,st,a1,_⟩,_⟩:=Hd1;exact fix2.x a1
  have e21:L2 (.x 1)=L1 (.x 1):=fix2.x Hd1.at1;rw [<-e20];w_fin;refine ⟨by simp,?_⟩;w_fin;refine ⟨by simp,?_⟩;w_fin;refine ⟨by simp,?_⟩;w_fin;refine ⟨by simp,λa2 ha2=>?_⟩;w_fin;have z12:ex1 2=none:=z1 2 (by simp) (by simp);have I3:=I2.newX ha2 2 (.list (abc.map Zw));obtain ⟨L3,hL3⟩:∃L3,L3=upd L2 (.x 2) a2:=⟨_,rfl⟩;rw [<-hL3] at I3;have e32:L3 (.x 2)=a2:=by rw [hL3,Zn]
  have e3:∀g,g≠.x 2->L3 g=L2 g:=λg hg=>by rw [hL3,Zk hg]
  clear hL3;subst e32;rw [<-e3 (.x 0) (by simp),<-e3 .d (gne rfl)];refine ⟨by simp,_,_,rfl,rfl,⟨_,UpdR.tail<|UpdR.tail<|UpdR.tail UpdR.head,_,UpdR.tail<|UpdR.tail UpdR.head,_,UpdR.tail UpdR.head,rfl⟩,?_⟩;have Hd3:Z2 (exS ex1 2 (some (.list (abc.map Zw)))) (L3 (.x 1)) cells:=by
    rw [e3 _ (by simp),e21];obtain ⟨⟨sp,st,a1,a2⟩,a3,a4⟩:=Hd1;exact ⟨⟨sp,st,by rw [Zj (by simp)];exact a1,a2⟩,by rw [Zj (by simp)];exact a3,a4⟩
  have r3:exS ex1 2 (some (.list (abc.map Zw))) 2=some (.list (abc.map Zw)):=Zr ..;have z3:∀n,3<=n->exS ex1 2 (some (.list (abc.map Zw))) n=none:=λn hn=>by rw [Zj (by first | decide | lia)];exact z1 n (by first | decide | lia) (by first | decide | lia)
  generalize exS ex1 2 (some (.list (abc.map Zw)))=ex3 at I3 Hd3 r3 z3;w_left;show WS _ _ _ _ (ZR sa (L3 (.x 0)) (L3 .d) (L3 (.x 2)) none none none none none none none none none none none) (σ2.set (L3 (.x 2)) (.list (abc.map Zw))) _ _;generalize σ2.set (L3 (.x 2)) (.list (abc.map Zw))=σ3 at I3 ⊢;have s60:WR.nodes.length=0:=rfl;w_fin;refine Xq (λ_=>by exact rfl) (itL ?_);w_fin;refine ⟨L3 (.x 2),_,rfl,I3.x r3,.inr ⟨rfl,rfl⟩,λits ρ σ4=>E4 λk o1 L4 h=>A7 (k<=3) (its=(abc.drop k).map Zw) (Inv σ4 L4 ⟨some h,none,ex3⟩) (Z4 ⟨some WR,none,ex3⟩ L3 L4) (H1 h) (h.nodes=abc.take k) (ρ=ZR sa (L3 (.x 0)) (L3 .d) (L3 (.x 2)) o1 none none none none none none none none none none),
    ⟨0,none,L3,WR,by lia,rfl,I3,λ_ _ _=>rfl,H1.empty,rfl,rfl⟩,?_,?_,?_⟩
  · rintro its ρ σ4 ⟨k,o1,L4,h,hk,_,I4,YW,_⟩;rw [<-YW.x r3];exact I4.x r3
  · rintro v its Kc hKc ρ σ4 ⟨k,o1,L4,h,hk,e1,I4,YW,H4,hn4,rfl⟩;by_cases hk3:k<3
    case neg=>
      have:k=3:=by lia
      subst this;simp [abc] at e1
    obtain ⟨op,hop,hat,hno,hdrop,htake⟩:=abc_at k hk3;rw [hdrop,List.map_cons,List.cons.injEq] at e1;obtain ⟨rfl,rfl⟩:=e1;have ed:L4 .d=L3 .d:=YW .d rfl snn;refine ZC (rl_u4) (.inl hFn) ?_;rw [<-ed];ktf_call 6;refine Fn.mono (VS ok I4 H4 (by rw [hn4];have:=List.length_take_le k abc;simp [abc] at this ⊢;lia) hop (z3 100 (by first | decide | lia))) (by decide) ?_;rintro m σ5 (⟨i,hi,rfl,I5⟩ | ⟨hnew,rfl,L5,h5,I5,fix5,H5,hn5⟩)
    · rw [hn4] at hi;exact absurd (List.mem_of_getElem? hi) hno
    · refine ⟨rfl,?_⟩;w_left;rw [ed];exact ⟨k+1,_,L5,h5,by lia,rfl,I5,YW.then fix5 ⟨λ_=>rfl,λq=>q,λ_ q=>q⟩,H5,by rw [hn5,hn4,htake],rfl⟩
  rintro ρ σ4 ⟨k,o1,L4,h4,hk,e1,I4,YW,H4,hn4,rfl⟩;have hk3:k=3:=by
    by_cases q:k<3
    · obtain ⟨op,_,_,_,hdrop,_⟩:=abc_at k q;rw [hdrop] at e1;cases e1
    · lia
  subst hk3;have Gh4:GH h4 ex3:=⟨H4,by rw [hn4];decide +kernel,by rw [hn4,r3];rfl⟩;have hl4:h4.nodes.length=3:=by rw [hn4];rfl
  have a0:L4 (.x 0)=L3 (.x 0):=by obtain ⟨⟨sp,st,q1,_⟩,_⟩:=Hd3;exact YW.x q1
  have a1:L4 (.x 1)=L3 (.x 1):=YW.x Hd3.at1;have a2:L4 (.x 2)=L3 (.x 2):=YW.x r3;have ad:L4 .d=L3 .d:=YW .d rfl snn;rw [<-a0,<-a2,<-ad];rw [<-a1] at Hd3;clear YW a0 a1 a2 ad I3 I2 I1 e3 e20 e21 hn4;have o1':=o1;w_left;w_left;w_fin;refine Xq (λ_=>by exact rfl) (itR ?_);tbr_iter YK;ktn_call ZS ZT;refine Fn.mono (YA ok I4 Hd3 (many:=2) (by first | decide | lia) (by first | decide | lia)) (by decide) ?_;rintro m σ5 ⟨v,hv,rfl,ex5,I5,Hd5,k5⟩;refine Jp ?_;w_fin;have Gh5:GH h4 ex5:=⟨Gh4.h1,Gh4.ops,by rw [k5 2 (by simp)];exact Gh4.row⟩;have z5:∀n,3<=n->ex5 n=none:=λn hn=>by rw [k5 n (by first | decide | lia)];exact z3 n hn
  refine Y2 ⟨2+v,by simp,by lia,.inr ⟨rfl,rfl⟩,λits ρ σ6=>E5 λk o2 L6 h6 ex6=>A12 (its=Za (List.range' k (2+v-k))) (k<=2+v) (Inv σ6 L6 ⟨some h6,none,ex6⟩) (GH h6 ex6) (Z2 ex6 (L6 (.x 1)) cells) ((∀n,3<=n->ex6 n=none)) (3<=h6.nodes.length) (h6.nodes.length<=3+k) (L6 (.x 0)=L4 (.x 0)) (L6 (.x 2)=L4 (.x 2)) (L6 .d=L4 .d) (ρ=ZR sa (L4 (.x 0)) (L4 .d) (L4 (.x 2)) o1 o2 none none none none none none none none none),
    ⟨0,none,L4,h4,ex5,XU _,by lia,I5,Gh5,Hd5,z5,by lia,by lia,rfl,rfl,rfl,rfl⟩,λ_ _ _ _=>trivial,?_,?_⟩
  · rintro u its Kc hKc ρ σ6 ⟨k,o2,L6,h6,ex6,e1,hk,I6,G6,Hd6,z6,hlo,hhi,e0,e2,ed,rfl⟩;obtain ⟨hkn,rfl,rfl⟩:=XC e1.symm;refine ZC (rl_u5) (.inl hFn) ?_;rw [<-e0,<-e2,<-ed];w_fin;refine Xu ?_ (by exact rfl);ktn_call Xp Xr;refine Fn.useV (VI ok I6 G6 (by first | decide | lia) (by first | decide | lia) Hd6 (z6 100 (by first | decide | lia)) (z6 103 (by first | decide | lia))) (by decide) ?_;rintro σ7 ⟨L7,h7,ex7,I7,fix7,G7,Hd7,k7,hh7,hl7⟩;obtain ⟨f0,f1,f2,fd⟩:=YW fix7 Hd6 G6;refine ⟨_,rfl,?_⟩;refine ifN (by simp) ?_;w_left;w_left;exact ⟨k+1,_,L7,h7,ex7,rfl,by lia,I7,G7,Hd7,λn hn=>by rw [k7 n (by first | decide | lia) (by first | decide | lia)];exact z6 n hn,by lia,by lia,by rw [f0,e0],by rw [f2,e2],by rw [fd,ed],by rw [e0,e2,ed]⟩
  rintro ρ σ6 ⟨k,o2,L6,h6,ex6,e1,hk,I6,G6,Hd6,z6,hlo,hhi,e0,e2,ed,rfl⟩;rw [<-e0,<-e2,<-ed];have hhi6:h6.nodes.length<=6:=by lia
  clear e0 e2 ed e1 I5 Gh5 Hd5 k5 z5 I4 hl4 Gh4 Hd3 z3 r3;w_left;w_left;w_fin;refine JM ?_ (by exact rfl) (by rw [Zy hF];exact rfl);w_left;w_left;refine rNew ok (k:=10) (gkOf gl_Layers (by assumption) (by exact rfl) (by decide)) (by exact rfl) fn_190 (by decide) ?_;w_fin;intro dl hdl;refine Fn.useV (QV ok I6 hdl) (by decide) ?_;rintro σ7 ⟨L7,I7,rfl,fix7⟩;refine ⟨rfl,?_⟩;obtain ⟨f0,f1,f2,fd⟩:=YW fix7 Hd6 G6;rw [<-f0,<-f2,<-fd];rw [<-f1] at Hd6;w_fin;refine ⟨by simp,λa3 ha3=>?_⟩;w_fin;refine ⟨by simp,?_⟩;refine WJ (by exact rfl) (by exact rfl) ZW trivial ?_;refine ZC (rl_u6) (.inl hFn) ?_;refine ZC (rl_u7) (.inl hFn) ?_;w_left;w_left;have I8:=I7.newX ha3 3 (.list []);obtain ⟨L8,hL8⟩:∃L8,L8=upd L7 (.x 3) a3:=⟨_,rfl⟩;rw [<-hL8] at I8;have e83:L8 (.x 3)=a3:=by rw [hL8,Zn]
  have e8:∀g,g≠.x 3->L8 g=L7 g:=λg hg=>by rw [hL8,Zk hg]
  clear hL8;subst e83;have G8:=G6.put (some (.list [])) (n:=3) (by first | decide | lia);have Hd8:=Hd6.put (some (.list [])) (n:=3) (by first | decide | lia);have r8:exS ex6 3 (some (.list [])) 3=some (.list []):=Zr ..;have z8:∀n,4<=n->exS ex6 3 (some (.list [])) n=none:=λn hn=>by rw [Zj (by first | decide | lia)];exact z6 n (by first | decide | lia)
  rw [<-e8 (.x 1) (by simp)] at Hd8;rw [<-e8 (.x 0) (by simp),<-e8 (.x 2) (by simp),<-e8 .d (gne rfl),<-e8 .ly (gne rfl)];generalize exS ex6 3 (some (.list []))=ex8 at I8 G8 Hd8 r8 z8;generalize σ7.set (L8 (.x 3)) (.list [])=σ8 at I8 ⊢;clear f0 f1 f2 fd fix7 I7 I6 G6 Hd6 z6 e8 ha3 hdl;have H6:=G8.h1.ok;have rt6:=G8.h1.root;w_fin;refine Xq (λ_=>by exact rfl) (itR ?_);tbr_iter YK;ktn_call ZS ZT;refine Fn.mono (YA ok I8 Hd8 (many:=2) (by first | decide | lia) (by first | decide | lia)) (by decide) ?_;rintro m σ9 ⟨v3,hv3,rfl,ex9,I9,Hd9,k9⟩;refine Jp ?_;w_fin;have G9:GH h6 ex9:=⟨G8.h1,G8.ops,by rw [k9 2 (by simp)];exact G8.row⟩;have z9:∀n,4<=n->ex9 n=none:=λn hn=>by rw [k9 n (by first | decide | lia)];exact z8 n hn
  have r9:ex9 3=some (.list []):=by rw [k9 3 (by simp)];exact r8
  obtain ⟨t,ht⟩:∃t,t=2+v3:=⟨_,rfl⟩;refine Y2 ⟨t,by rw [ht];simp,by lia,.inr ⟨rfl,rfl⟩,λits ρ σa=>E5 λk o3 La s ex=>A17 (its=Za (List.range' k (t-k))) (k<=t) (Inv σa La ⟨some h6,some s,ex⟩) (GH h6 ex) (Z2 ex (La (.x 1)) cells) (ex 3=some (.list (Za (List.range k)))) ((∀n,4<=n->ex n=none)) (s.many=k) (ZE s.ls=Zl (List.replicate k [])) (LOk s) (LV h6.nodes [] (root h6.ab) s.ls Xi) (La (.x 0)=L8 (.x 0)) (La (.x 2)=L8 (.x 2)) (La (.x 3)=L8 (.x 3)) (La .d=L8 .d) (La .ly=L8 .ly) (ρ=ZR sa (L8 (.x 0)) (L8 .d) (L8 (.x 2)) o1 o2 (some (.inst 190 (L8 .ly))) (some (.ref (L8 (.x 3)))) o3 none none none none none none),
    ⟨0,none,L8,⟨0,[]⟩,ex9,XU _,by lia,I9,G9,Hd9,r9,z9,rfl,rfl,⟨by simp,by simp,by simp,by simp,by simp,by simp⟩,⟨by rw [rt6];exact lst_id G8.h1.nd,λi x hx=>by simp [Zb] at hx⟩,rfl,rfl,rfl,rfl,rfl,rfl⟩,λ_ _ _ _=>trivial,?_,?_⟩
  · rintro u its Kc hKc ρ σa ⟨k,o3,La,s,ex,e1,hk,Ia,Ga,Hda,ra,za,hm,hc,K,VV,q0,q2,q3,qd,ql,rfl⟩;obtain ⟨hkn,rfl,rfl⟩:=XC e1.symm;have hlen:s.ls.length=k:=by rw [Wo hc];simp
    refine ZC (rl_u8) (.inl hFn) ?_;rw [<-q0,<-q2,<-q3,<-qd,<-ql];have ga:=Ia.x ra;w_left;w_left;tb_from PySem.F.slot_list_append;ktf_call 2;refine ⟨by simp,λD hD=>?_⟩;have ga':=Ext.set (mo:=.list []) hD _ _ ga;have Ia':=Ia.garb (o:=.list []) hD;refine Wf (bs:=[]) (Y3 _) rfl ga' (MH.set_same ..) (Vy _) rfl ⟨_,rfl,?_⟩;generalize σa.set D (.list [])=σb at ga' Ia' ⊢;have key:∀o:Option Nat,o=(if k=0 then none else some (k-1))->Fn (SS w h0) 2 (.ref 97) [.inst 190 (La .ly),Zs o] σb (λm σ2=>ZN (SS w h0) F (11,15) (.builtin "list.append") [.ref (La (.x 3)),m] (ZR sa (La (.x 0)) (La .d) (La (.x 2)) o1 o2 (some (.inst 190 (La .ly))) (some (.ref (La (.x 3)))) (some (.int k)) none none none none none none) σ2
        (λm σd=>m=.none/\E2 λLb ex'=>A13 (Inv σd Lb ⟨some h6,some (newL s o),ex'⟩) (GH h6 ex') (Z2 ex' (Lb (.x 1)) cells) (ex' 3=some (.list (Za (List.range (k+1))))) ((∀n,4<=n->ex' n=none)) (ZE (newL s o).ls=Zl (List.replicate (k+1) [])) (LOk (newL s o)) (LV h6.nodes [] (root h6.ab) (newL s o).ls Xi) (Lb (.x 0)=La (.x 0)) (Lb (.x 2)=La (.x 2)) (Lb (.x 3)=La (.x 3)) (Lb .d=La .d) (Lb .ly=La .ly)) (λ_=>False)):=by
      rintro o rfl;have hol:isL s.ls (if k=0 then none else some (k-1)):=by
        (set_option tactic.hygienic true in split)
        · trivial
        · obtain ⟨x,hx,_⟩:=X3 K hc (i:=k-1) (by simp;lia);exact ⟨x,hx⟩
      refine Fn.useV (Jo ok Ia' K hol) (by decide) ?_;rintro σc ⟨Lb,Ib,fixb⟩;obtain ⟨f0,f1,f2,fd⟩:=YW fixb Hda Ga;have f3:Lb (.x 3)=La (.x 3):=fixb.x ra;have fl:Lb .ly=La .ly:=fixb .ly rfl snn;have gb:=Ib.x ra;rw [f3] at gb;refine Z5 gb (by simp [Za];lia) ⟨rfl,Lb,_,?_,Ga.put (some (.list (Za (List.range k)++[.int s.many]))) (n:=3) (by first | decide | lia),by rw [f1];exact Hda.put _ (by first | decide | lia),by rw [Zr,hm,List.range_succ];simp [Za],λn hn=>by rw [Zj (by first | decide | lia)];exact za n hn,?_,WD K hol (by first | decide | lia) (by first | decide | lia),VV.newL K hol (by first | decide | lia) (by first | decide | lia),f0,f2,f3,fd,fl⟩
      · have:=Ib.setX (.list (Za (List.range k)++[.int s.many])) ra;rwa [f3] at this
      · rw [Wa,hc,VN,hm]
    by_cases hk0:k=0
    · refine ifN (by subst hk0;simp) ?_;w_fin;refine Fn.mono (key none (by simp [hk0])) (by decide) ?_;rintro m σ2 hW;w_left;refine ZN.mono hW ?_;rintro m' σd ⟨rfl,Lb,ex',Ib,Gb,Hdb,rb,zb,cb,Kb,Vb,f0,f2,f3,fd,fl⟩;refine ⟨rfl,?_⟩;w_left;exact ⟨k+1,_,Lb,newL s none,ex',rfl,by lia,Ib,Gb,Hdb,rb,zb,by simp [newL,hm],cb,Kb,Vb,by rw [f0,q0],by rw [f2,q2],by rw [f3,q3],by rw [fd,qd],by rw [fl,ql],by rw [q0,q2,q3,qd,ql]⟩
    · refine ifP (by simp [hk0]) ?_;w_fin;refine ⟨1,rfl,?_⟩;refine V9 ga' (by first | decide | lia) (by first | decide | lia) (by simp [Za];lia) (v:=.int (k-1:Nat)) ?_ ?_ (by exact rfl)
      · have e9:((-1:Int)+((Za (List.range k)).length:Int)).toNat=k-1:=by simp only [Za,List.length_map,List.length_range];lia
        have e10:k-1<k:=by lia
        rw [e9];simp [Za,e10]
      w_fin;refine Fn.mono (key (some (k-1)) (by simp [hk0])) (by decide) ?_;rintro m σ2 hW;w_left;refine ZN.mono hW ?_;rintro m' σd ⟨rfl,Lb,ex',Ib,Gb,Hdb,rb,zb,cb,Kb,Vb,f0,f2,f3,fd,fl⟩;refine ⟨rfl,?_⟩;w_left;exact ⟨k+1,_,Lb,newL s (some (k-1)),ex',rfl,by lia,Ib,Gb,Hdb,rb,zb,by simp [newL,hm],cb,Kb,Vb,by rw [f0,q0],by rw [f2,q2],by rw [f3,q3],by rw [fd,qd],by rw [fl,ql],by rw [q0,q2,q3,qd,ql]⟩
  rintro ρ σa ⟨k,o3,La,s,ex,e1,hk,Ia,Ga,Hda,ra,za,hm,hc,K,VV,q0,q2,q3,qd,ql,rfl⟩;have hkt:k=t:=by have:=VK e1.symm;lia
  subst hkt;rw [<-q0,<-q2,<-q3,<-qd,<-ql];have ht2:2<=k:=by lia
  have ht3:k<=3:=by lia
  clear q0 q2 q3 qd ql e1 hk I9 G9 Hd9 z9 r9 k9 I8 G8 Hd8 r8 z8 ht hv3;w_left;w_left;w_fin;refine KV (λ_=>by exact rfl) hF (by exact rfl) rfl hFn (by rw [YS hF];exact rfl) (itL ?_);w_fin;refine ⟨La (.x 3),_,rfl,Ia.x ra,.inr ⟨rfl,rfl⟩,λa4 ha4=>?_⟩;have z4:ex 4=none:=za 4 (by first | decide | lia);obtain ⟨L4',I4',e44,e4,_⟩:=Ia.openX ha4 4 z4 (.list []);refine ⟨⟨λits acc ρ' σ'=>E4 λj Lb exb oo=>A10 (its=Za (List.range' j (k-j))) (j<=k) (Inv σ' Lb ⟨some h6,some s,exb⟩) (exb 4=some (.list acc)) (Lb (.x 4)=a4) (acc=(List.range j).map (λi=>V.ref (Lb (.x (10+i))))) ((∀i,i<j->exb (10+i)=some (.list []))) ((∀n,n≠4->(n<10\/10+j<=n)->exb n=ex n)) ((∀g,g≠.x 4->(∀i,g≠.x (10+i))->Lb g=La g)) (ρ'=([(".0",none),("layer",oo)]:Rho)),
    ⟨0,L4',_,none,by rw [List.range_eq_range'];rfl,by lia,I4',Zr ..,e44,rfl,λi hi=>absurd hi (by first | decide | lia),λn hn _=>Zj hn,λg hg _=>e4 g hg,rfl⟩,?_,?_,?_⟩⟩
  · rintro its acc ρ' σ' ⟨j,Lb,exb,oo,_,hj,Ib,gb,eb4,_,_,kb,fb,_⟩;have e3b:Lb (.x 3)=La (.x 3):=fb _ (by simp) (by simp;lia);refine ⟨?_,by rw [<-eb4];exact Ib.x gb⟩;rw [<-e3b];exact Ib.x (by show exb 3=_;rw [kb 3 (by simp) (by simp)];exact ra)
  · rintro Fc hFc hFn' x rest acc ρ' σ' ⟨j,Lb,exb,oo,e1,hj,Ib,gb,eb4,hacc,hz2,kb,fb,rfl⟩;obtain ⟨hjk,rfl,rfl⟩:=XC e1.symm;refine ZC (UpdR.tail UpdR.head) (.inr (by show Fc.env.scope.names.lookup _=_;rw [hFc];exact rfl)) ?_;simp only [WIfs,if_true];w_fin;refine ⟨by simp,λD hD=>?_⟩;have Ic:=Ib.newX hD (10+j) (.list []);have gc:exS exb (10+j) (some (.list [])) 4=some (.list acc):=by rw [Zj (by first | decide | lia)];exact gb
    have Id:=Ic.setX (.list (acc++[.ref D])) gc;rw [show upd Lb (.x (10+j)) D (.x 4)=a4 by rw [Zk (by simp;lia)];exact eb4] at Id;have gD:=Ic.x gc;rw [show upd Lb (.x (10+j)) D (.x 4)=a4 by rw [Zk (by simp;lia)];exact eb4] at gD;refine ⟨by rw [hacc];simp;lia,gD,j+1,upd Lb (.x (10+j)) D,_,_,rfl,by lia,Id,Zr ..,by rw [Zk (by simp;lia)];exact eb4,?_,?_,?_,?_,rfl⟩
    · rw [hacc,List.range_succ,List.map_append,List.map_cons,List.map_nil,Zn];congr 1;exact List.map_congr_left λi hi=>by
        have:i<j:=by simpa using hi
        rw [Zk (by simp;lia)]
    · intro i hi;rw [Zj (by first | decide | lia)];by_cases q:i=j
      · subst q;exact Zr ..
      · rw [Zj (by first | decide | lia)];exact hz2 i (by first | decide | lia)
    · intro n hn hr;rw [Zj hn,Zj (by first | decide | lia)];exact kb n hn (by first | decide | lia)
    · intro g hg hi;rw [Zk (hi j)];exact fb g hg hi
  rintro acc ρ' σ' ⟨j,Lb,exb,oo,e1,hj,Ib,gb,eb4,hacc,hz2,kb,fb,rfl⟩;have hjk:j=k:=by have:=VK e1.symm;lia
  subst hjk;refine ⟨_,rl_u9,?_⟩;have f0:Lb (.x 0)=La (.x 0):=fb _ (by simp) (by simp;lia);have f1:Lb (.x 1)=La (.x 1):=fb _ (by simp) (by simp;lia);have f2:Lb (.x 2)=La (.x 2):=fb _ (by simp) (by simp;lia);have f3:Lb (.x 3)=La (.x 3):=fb _ (by simp) (by simp;lia);have fd:Lb .d=La .d:=fb _ (by simp) (by simp);have fl:Lb .ly=La .ly:=fb _ (by simp) (by simp);have Gb:GH h6 exb:=⟨Ga.h1,Ga.ops,by rw [kb 2 (by simp) (by simp)];exact Ga.row⟩;have Hdb:Z2 exb (Lb (.x 1)) cells:=by
    rw [f1];obtain ⟨⟨sp,st,q1,q2⟩,q3,q4⟩:=Hda;exact ⟨⟨sp,st,by rw [kb 0 (by simp) (by simp)];exact q1,q2⟩,by rw [kb 1 (by simp) (by simp)];exact q3,q4⟩
  have Tb:ZL exb Lb (List.replicate j []):=⟨by rw [kb 3 (by simp) (by simp),ra];simp,by rw [gb,hacc];simp,λi p hp=>by
    have hi:i<j:=by have:=(List.getElem?_eq_some_iff.mp hp).1;simpa using this
    have:p=[]:=by rw [List.getElem?_replicate,if_pos hi] at hp;cases hp;rfl
    subst this;exact hz2 i hi⟩
  have zb:∀n,5<=n->(n<10\/20<=n)->exb n=none:=λn h5 hr=>by rw [kb n (by first | decide | lia) (by first | decide | lia)];exact za n (by first | decide | lia)
  rw [<-f0,<-f2,<-f3,<-fd,<-fl,<-eb4];clear f0 f1 f2 f3 fd fl kb fb hz2 hacc e1 Ia Ga Hda ra za gb I4' e44 e4 ha4 z4 hj;w_left;w_left;have hpos6:0<h6.nodes.length:=by lia
  refine Xq (λ_=>by exact rfl) (itR ?_);tbr_iter YK;ktn_call ZS ZT;refine Fn.mono (YA ok Ib Hdb (many:=2) (by first | decide | lia) (by first | decide | lia)) (by decide) ?_;rintro m σ9 ⟨v4,hv4,rfl,ex9,I9,Hd9,k9⟩;refine Jp ?_;w_fin;have G9:GH h6 ex9:=⟨Gb.h1,Gb.ops,by rw [k9 2 (by simp)];exact Gb.row⟩;have T9:ZL ex9 Lb (List.replicate j []):=Tb.move (λn hn=>k9 n (by first | decide | lia)) λ_ _=>rfl;have z9:∀n,5<=n->(n<10\/20<=n)->ex9 n=none:=λn h5 hr=>by rw [k9 n (by first | decide | lia)];exact zb n h5 hr
  have hps0:∀p∈List.replicate j ([]:ZZ),∀q∈p,q.1<h6.nodes.length/\q.2<h6.nodes.length:=λp hp q hq=>by
    rw [List.eq_of_mem_replicate hp] at hq;cases hq
  have S9:St4 cells j 0 (Lb (.x 0)) (Lb (.x 2)) (Lb (.x 3)) (Lb (.x 4)) (Lb .d) (Lb .ly) σ9:=
    ⟨Lb,h6,s,ex9,List.replicate j [],I9,G9,Hd9,T9,by simp,hc,K,hm,VV,hps0,by simp,hlo,by lia,z9,rfl,rfl,rfl,rfl,rfl,rfl⟩
  generalize Lb (.x 0)=A0 at S9 ⊢;generalize Lb (.x 2)=A2 at S9 ⊢;generalize Lb (.x 3)=A3 at S9 ⊢;generalize Lb (.x 4)=A4 at S9 ⊢;generalize Lb .d=Ad at S9 ⊢;generalize Lb .ly=Al at S9 ⊢;clear I9 G9 Hd9 T9 z9 k9 Ib Gb Hdb Tb zb hc K hm VV hpos6 H6 rt6 hlo hhi6;obtain ⟨n4,hn4⟩:∃n4,n4=2+v4:=⟨_,rfl⟩;have hn3:n4<=3:=by lia
  refine Y2 ⟨n4,by rw [hn4];simp,by lia,.inr ⟨rfl,rfl⟩,λits ρ σa=>E6 λk o2 o3 oa ob oh=>Mine.A4 (its=Za (List.range' k (n4-k))) (k<=n4) (St4 cells j k A0 A2 A3 A4 Ad Al σa) (ρ=ZR sa A0 Ad A2 o1 o2 (some (.inst 190 Al)) (some (.ref A3)) o3 (some (.ref A4)) oa ob oh none none),
    ⟨0,_,_,none,none,none,XU _,by lia,S9,rfl⟩,λ_ _ _ _=>trivial,?_,?_⟩
  · rintro u its Kc hKc ρ σa ⟨k,o2,o3,oa,ob,oh,e1,hk,S,rfl⟩;obtain ⟨hkn,rfl,rfl⟩:=XC e1.symm;refine ZC (rl_u5) (.inl hFn) ?_;refine sCons ?_;refine WS.conseq (Q':=λmf ρ' σ'=>Mine.A3 (mf=.next) (St4 cells j (k+1) A0 A2 A3 A4 Ad Al σ') (E4 λo3 oa ob oh=>ρ'=ZR sa A0 Ad A2 o1 (some (.int k)) (some (.inst 190 Al)) (some (.ref A3)) o3 (some (.ref A4)) oa ob oh none none)) ?_ ?_
    · obtain ⟨L,h,s,ex,ps,I,G,Hd,T,hpl,hc,K,hm,VV,hps,hfl,hlo,hhi,z,rfl,rfl,rfl,rfl,rfl,rfl⟩:=S;have h60:=G.h1.small;w_left;w_left;ktn_call ZS ZT;refine Fn.mono (YA ok I Hd (many:=4) (by first | decide | lia) (by first | decide | lia)) (by decide) ?_;rintro m σb ⟨vb,hvb,rfl,exb,Ib,Hdb,kb⟩;have Gb:GH h exb:=⟨G.h1,G.ops,by rw [kb 2 (by simp)];exact G.row⟩;have Tb:ZL exb L ps:=T.move (λn hn=>kb n (by first | decide | lia)) λ_ _=>rfl;have zb:∀n,5<=n->(n<10\/20<=n)->exb n=none:=λn h5 hr=>by rw [kb n (by first | decide | lia)];exact z n h5 hr
      w_fin;refine V2 ⟨_,rfl,?_⟩;by_cases hv3:vb=3
      · refine ifP (by simp [hv3]) ?_;w_fin;refine Xu ?_ (by exact rfl);ktn_call Xp Xr;refine Fn.useV (VI ok Ib Gb (by first | decide | lia) (by first | decide | lia) Hdb (zb 100 (by first | decide | lia) (by first | decide | lia)) (zb 103 (by first | decide | lia) (by first | decide | lia))) (by decide) ?_;rintro σ7 ⟨L7,h7,ex7,I7,fix7,G7,Hd7,k7,hh7,hl7⟩;obtain ⟨f0,f1,f2,fd⟩:=YW fix7 Hdb Gb;obtain ⟨fi,f3,f4⟩:=Tb.fix fix7;have fl:L7 .ly=L .ly:=fix7 .ly rfl snn;have T7:ZL ex7 L7 ps:=Tb.move (λn hn=>k7 n (by first | decide | lia) (by first | decide | lia)) fi;have z7:∀n,5<=n->(n<10\/20<=n)->ex7 n=none:=λn h5 hr=>by rw [k7 n (by first | decide | lia) (by first | decide | lia)];exact zb n h5 hr
        refine ⟨_,rfl,?_⟩;refine ifN (by simp) ?_;w_fin;rw [<-f0,<-f2,<-f3,<-f4,<-fd,<-fl];ktf_call 8;refine Fn.mono (VU ok I7 K (ns:=h7.nodes) (P:=[]) (R:=λh1=>h1=h7) (λh1 e=>by subst e;exact ⟨G7.h1.ok,rfl,by rw [G7.h1.root];exact lst_id G7.h1.nd⟩)
          (λi x hx q hq=>by have:=Kv hc hps i x hx q hq;lia) (z7 100 (by first | decide | lia) (by first | decide | lia)) (z7 102 (by first | decide | lia) (by first | decide | lia))
          (Fn.mono (WH ok I7 G7.h1.waits) (by first | decide | lia) (by rintro m σ' ⟨rfl,rfl⟩;exact ⟨rfl,L7,h7,I7,λ_ _ _=>rfl,rfl⟩))) (by decide) ?_
        rintro m σ8 ⟨rfl,L8,h8,ls8,I8,fix8,rfl,hc8,K8,V8⟩;obtain ⟨g0,g1,g2,gd⟩:=YW fix8 Hd7 G7;obtain ⟨gi,g3,g4⟩:=T7.fix fix8;have gl:L8 .ly=L7 .ly:=fix8 .ly rfl snn;refine ⟨rfl,?_⟩;refine ⟨rfl,⟨L8,h8,_,ex7,ps,I8,G7,by rw [g1];exact Hd7,T7.move (λ_ _=>rfl) gi,hpl,hc8.trans hc,K8,hm,V8,λp hp q hq=>by have:=hps p hp q hq;lia,by lia,by lia,by lia,z7,g0,g2,g3,g4,gd,gl⟩,o3,oa,ob,oh,rfl⟩
      · refine ifN (by simp;lia) ?_;have gtow:=Ib.x Tb.row;w_fin;refine Jb (xs:=["place","a","b"]) hFn ?_ (by exact rfl) (by rw [Zy hF];exact rfl);ktn_call ZS ZT;tbr_iter Z1;refine YG gtow (by simp [Za];lia) ?_;w_fin;rw [show ((Za (List.range ps.length)).length:Int)=(ps.length:Int) by simp [Za]];refine Fn.mono (YA ok Ib Hdb (many:=ps.length) (by first | decide | lia) (by first | decide | lia)) (by decide) ?_;rintro m σc ⟨place,hplace,rfl,exc,Ic,Hdc,kc⟩;have grow:∀{σ' ex'},Inv σ' L ⟨some h,some s,ex'⟩->ex' 2=exb 2->σ' (L (.x 2))=some (.list (h.nodes.map Zw)):=λI' e=>I'.x (e.trans Gb.row);ktn_call ZS ZT;tbr_iter Z1;refine YG (grow Ic (kc 2 (by simp))) (by simp;lia) ?_;w_fin;rw [List.length_map];refine Fn.mono (YA ok Ic Hdc (many:=h.nodes.length) (by first | decide | lia) (by first | decide | lia)) (by decide) ?_;rintro m σd ⟨a,ha,rfl,exd,Id,Hdd,kd⟩;ktn_call ZS ZT;tbr_iter Z1;refine YG (grow Id (by rw [kd 2 (by simp),kc 2 (by simp)])) (by simp;lia) ?_;w_fin;rw [List.length_map];refine Fn.mono (YA ok Id Hdd (many:=h.nodes.length) (by first | decide | lia) (by first | decide | lia)) (by decide) ?_;rintro m σe ⟨b,hb,rfl,exe,Ie,Hde,ke⟩;have kall:∀n,n≠0->exe n=exb n:=λn hn=>by rw [ke n hn,kd n hn,kc n hn]
        have Ge:GH h exe:=⟨Gb.h1,Gb.ops,by rw [kall 2 (by simp)];exact Gb.row⟩;have Te:ZL exe L ps:=Tb.move (λn hn=>kall n (by first | decide | lia)) λ_ _=>rfl;have ze:∀n,5<=n->(n<10\/20<=n)->exe n=none:=λn h5 hr=>by rw [kall n (by first | decide | lia)];exact zb n h5 hr
        clear Ic Id Hdc Hdd kc kd ke kall grow;w_fin;refine ⟨by simp,_,_,rfl,rfl,⟨_,rl_u11,_,rl_u10,_,rl_u8,rfl⟩,?_⟩;w_left;w_left;have grefs:=Ie.x Te.refs;have gnodes:=Ie.x Ge.row;ktn_call JW JO;refine rFlat (λq1 q2=>[(".0",none),("some",q1),("pair",q2)]) (λ_=>by exact rfl) (λ_ _=>by exact rfl) hF (by exact rfl) rfl (by exact rfl) (λ_ _ _=>UpdR.tail UpdR.head) (λ_ _ _=>UpdR.tail<|UpdR.tail UpdR.head) (λ_ _=>by kst_mem) (λ_ _=>by kst_mem)
          (λFc h=>by show Fc.env.scope.names.lookup _=_;rw [h];exact rfl) (λFc h=>by show Fc.env.scope.names.lookup _=_;rw [h];exact rfl) (itL (UV ?_))
        w_fin;refine ⟨_,rfl,?_⟩;refine J8 ?_;refine rPart ?_;w_fin;refine Jp ?_;refine J8 ?_;refine ⟨_,none,some ((place+1:Nat):Int),none,grefs,rfl,by simp [Vx],rfl,by decide,by simp;lia,λD hD=>?_⟩;rw [VG,take_range (by first | decide | lia)];have hin:∀q∈(ps.take (place+1)).flatten,q.1<h.nodes.length/\q.2<h.nodes.length:=by
          intro q hq;obtain ⟨l,hl,hql⟩:=List.mem_flatten.mp hq;exact hps l (List.mem_of_mem_take hl) q hql
        have hlen:(ps.take (place+1)).flatten.length<=1000:=by
          have:(ps.take (place+1)).flatten.length<=ps.flatten.length:=by
            conv=>rhs;rw [<-List.take_append_drop (place+1) ps,List.flatten_append,List.length_append]
            lia
          lia
        refine ⟨D,_,rfl,MH.set_same ..,rfl,λσ2 e=>e _ _ (MH.set_same ..),(List.range (place+1)).map (λi=>(L (.x (10+i)),(ps.getD i []).map Zh)),by rw [List.map_map];rfl,?_,?_,λa9 ha9=>?_⟩
        · intro p hp;obtain ⟨i,hi,rfl⟩:=List.mem_map.mp hp;have hi':i<ps.length:=by have:=List.mem_range.mp hi;lia
          refine Ext.set hD _ _ (Ie.x (Te.each i _ ?_));simp [List.getD,hi']
        · rw [J1 (by first | decide | lia)];simp only [List.length_map];lia
        rw [J1 (by first | decide | lia)];w_fin;refine Fn.mono (Ww ok (Ext.set ha9 _ _ (Ext.set hD _ _ gnodes)) (MH.set_same ..) Ge.h1.nd Ge.ops (λi nd hi=>Ge.h1.ok.kids i nd hi) h60 hin hlen) (by decide) ?_;rintro m σf ⟨D6,ob6,hD6,rfl,rfl,f,rfl,hLf⟩;refine ⟨_,rl_u12,?_⟩;w_left;w_left;have E6:Ext σe ((σe.set D (.list ((List.range (place+1)).map λi=>V.ref (L (.x (10+i)))))).set a9 (.list ((ps.take (place+1)).flatten.map Zh))):=(Ext.set hD).trans (Ext.set ha9);have If0:=Ie.ext E6;generalize (σe.set D (.list ((List.range (place+1)).map λi=>V.ref (L (.x (10+i)))))).set a9 (.list ((ps.take (place+1)).flatten.map Zh))=σf at If0 hD6 ⊢;obtain ⟨Lf,Iff,e66,e6,_⟩:=If0.openX hD6 6 (ze 6 (by first | decide | lia) (by first | decide | lia)) (.list (ZF h.nodes.length f));subst e66;have Gf:=Ge.put (some (.list (ZF h.nodes.length f))) (n:=6) (by first | decide | lia);have Hdf:=Hde.put (some (.list (ZF h.nodes.length f))) (n:=6) (by first | decide | lia);have Tf:ZL (exS exe 6 (some (.list (ZF h.nodes.length f)))) Lf ps:=(Te.put _ (n:=6) (by first | decide | lia) (by first | decide | lia) (by first | decide | lia)).move (λ_ _=>rfl) λi _=>e6 _ (by simp;lia);have zf:∀n,5<=n->n≠6->(n<10\/20<=n)->exS exe 6 (some (.list (ZF h.nodes.length f))) n=none:=λn h5 h6 hr=>by rw [Zj h6];exact ze n h5 hr
        have hf6:exS exe 6 (some (.list (ZF h.nodes.length f))) 6=some (.list (ZF h.nodes.length f)):=Zr ..;rw [<-e6 (.x 1) (by simp)] at Hdf;have b0:=e6 (.x 0) (by simp);have b2:=e6 (.x 2) (by simp);have b3:=e6 (.x 3) (by simp);have b4:=e6 (.x 4) (by simp);have bd:=e6 .d (gne rfl);have bl:=e6 .ly (gne rfl);rw [<-b0,<-b2,<-b3,<-b4,<-bd,<-bl];generalize σf.set (Lf (.x 6)) (.list (ZF h.nodes.length f))=σg at Iff ⊢;generalize exS exe 6 (some (.list (ZF h.nodes.length f)))=exf at Iff Gf Hdf Tf zf hf6;clear Ie Ge Hde Te ze grefs gnodes If0 hD6 e6 hD ha9 E6;obtain ⟨p,hp⟩:∃p,ps[place]?=some p:=⟨_,List.getElem?_eq_getElem hplace⟩;have hpz:p.length<=1000:=by
          have:p.length<=ps.flatten.length:=by
            rw [<-List.take_append_drop place ps,List.drop_eq_getElem_cons hplace];have e9:ps[place]=p:=by rw [List.getElem?_eq_getElem hplace] at hp;exact Option.some.inj hp
            rw [e9];simp;lia
          lia
        obtain ⟨x,hx,hxu,hxt⟩:=X3 K hc hplace;have hxt':x.told=p:=by rw [hxt];simp [List.getD,hp]
        w_left;refine fMList PySem.F.slot_list_append (by exact rfl) (by exact rfl) ?_ (by exact rfl);w_fin;refine ZX (Iff.x Tf.refs) (by first | decide | lia) (by first | decide | lia) (v:=.ref (Lf (.x (10+place)))) (by simp [hplace]) ?_ (by exact rfl);refine ⟨_,_,rfl,Iff.x (Tf.each place p hp),?_⟩;w_fin;refine ⟨by simp,?_⟩;w_fin;refine Z5 (Iff.x (Tf.each place p hp)) (by simp;lia) ⟨rfl,?_⟩;have Ig:=Iff.setX (.list (p.map Zh++[Zh (a,b)])) (Tf.each place p hp);have Gg:=Gf.put (some (.list (p.map Zh++[Zh (a,b)]))) (n:=10+place) (by first | decide | lia);have Hdg:=Hdf.put (some (.list (p.map Zh++[Zh (a,b)]))) (n:=10+place) (by first | decide | lia);have Tg:=Tf.add (k:=place) (p:=p) (a,b);have zg:∀n,5<=n->n≠6->(n<10\/20<=n)->exS exf (10+place) (some (.list (p.map Zh++[Zh (a,b)]))) n=none:=λn h5 h6 hr=>by rw [Zj (by first | decide | lia)];exact zf n h5 h6 hr
        have hg6:exS exf (10+place) (some (.list (p.map Zh++[Zh (a,b)]))) 6=some (.list (ZF h.nodes.length f)):=by rw [Zj (by first | decide | lia)];exact hf6
        w_left;show WS _ _ _ _ _ (σg.set (Lf (.x (10+place))) (.list (p.map Zh++[Zh (a,b)]))) _ _;generalize σg.set (Lf (.x (10+place))) (.list (p.map Zh++[Zh (a,b)]))=σh at Ig ⊢;generalize exS exf (10+place) (some (.list (p.map Zh++[Zh (a,b)])))=exg at Ig Gg Hdg Tg zg hg6;clear Iff Gf Hdf Tf zf hf6;w_left;w_left;w_left;ktf_call 8;have htw:=Tg.row;rw [List.length_set] at htw;refine ZX (Ig.x htw) (by first | decide | lia) (by first | decide | lia) (v:=.int place) (by simp [Za,hplace]) ?_ (by exact rfl);w_fin;refine Fn.useV (JU ok Ig Gg.h1.ok K hx VV (Kv hc hps) (by rw [hxt'];exact hpz) (zg 100 (by first | decide | lia) (by first | decide | lia) (by first | decide | lia)) (zg 102 (by first | decide | lia) (by first | decide | lia) (by first | decide | lia)) ha hb) (by decide) ?_;rintro σi ⟨Li,lsi,Ii,fixi,hci,Ki,Vi⟩;have e6i:Li (.x 6)=Lf (.x 6):=fixi.x hg6;have g6i:=Ii.x hg6;rw [e6i] at g6i;w_fin;refine ZX g6i (by first | decide | lia) (by first | decide | lia) (Yj ha) ?_ (by exact rfl);w_fin;refine ZX g6i (by first | decide | lia) (by first | decide | lia) (Yj hb) ?_ (by exact rfl);refine Vh ?_;rw [Qy];have Lx:=VV.each place x hx id;rw [Js K hc place hplace] at Lx;have ef:fnd s.ls (root h.ab) (some place)=f:=Lx.uniq hLf λ_=>Iff.rfl;rw [ef];refine p_isnotb ⟨_,rfl,?_⟩;refine ifN (by simp) ?_;w_left;obtain ⟨g0,g1,g2,gd⟩:=YW fixi Hdg Gg;obtain ⟨gi,g3,g4⟩:=Tg.fix fixi;have gl:Li .ly=Lf .ly:=fixi .ly rfl snn;have Ij:=Ii.dropX 6;have Gj:=Gg.put none (n:=6) (by first | decide | lia);have Hdj:=Hdg.put none (n:=6) (by first | decide | lia);rw [<-g1] at Hdj;have Tj:=(Tg.put none (n:=6) (by first | decide | lia) (by first | decide | lia) (by first | decide | lia)).move (L':=Li) (λ_ _=>rfl) gi;refine ⟨rfl,⟨Li,h,_,_,ps.set place (p++[(a,b)]),Ij,Gj,Hdj,Tj,by rw [List.length_set];exact hpl,?_,Ki,hm,Vi,set_range hp ha hb hps,by rw [KH hp];lia,by lia,by lia,λn h5 hr=>?_,g0.trans b0,g2.trans b2,g3.trans b3,g4.trans b4,gd.trans bd,gl.trans bl⟩,_,_,_,_,by rw [b0,b2,b3,b4,bd,bl] <;> rfl⟩
        · show ZE lsi=_;rw [hci,Wg,hc,VM hp]
        · by_cases q:n=6
          · subst q;exact Zr ..
          · rw [Zj q];exact zg n h5 q hr
    · rintro mf ρ' σ' ⟨rfl,S',o3',oa',ob',oh',rfl⟩;refine ⟨σ',Ext.refl _,?_⟩;obtain ⟨L,h,s,ex,ps,I,G,Hd,T,hpl,hc,K,hm,VV,hps,hfl,hlo,hhi,z,rfl,rfl,rfl,rfl,rfl,rfl⟩:=S';w_left;w_left;w_fin;refine Xu ?_ (by exact rfl);ktn_call Jt Jy;refine Fn.useP (Qj ok I G (by first | decide | lia) K T hc VV hps (by first | decide | lia) (by first | decide | lia) (spot:=k) (by first | decide | lia)) (by decide) ?_;refine ⟨_,rfl,?_⟩;refine ifN (by simp) ?_;w_left;w_left;exact ⟨k+1,_,_,_,_,_,rfl,by lia,⟨L,h,s,ex,ps,I,G,Hd,T,hpl,hc,K,hm,VV,hps,hfl,hlo,hhi,z,rfl,rfl,rfl,rfl,rfl,rfl⟩,rfl⟩
  rintro ρ σa ⟨k,o2,o3,oa,ob,oh,e1,hk,S,rfl⟩;obtain ⟨L,h,s,ex,ps,I,G,Hd,T,hpl,hc,K,hm,VV,hps,hfl,hlo,hhi,z,rfl,rfl,rfl,rfl,rfl,rfl⟩:=S;have H:=G.h1.ok;have hfl3:ps.flatten.length<=3:=by lia
  have hslen:s.ls.length=ps.length:=Wo hc;w_fin;refine JM ?_ (by exact rfl) (by rw [Zy hF];exact rfl);ktf_call 2;refine Fn.useV (Jo ok I K (o:=none) trivial) (by decide) ?_;rintro σb ⟨Lb,Ib,fixb⟩;obtain ⟨g0,g1,g2,gd⟩:=YW fixb Hd G;obtain ⟨gi,g3,g4⟩:=T.fix fixb;have gl:Lb .ly=L .ly:=fixb .ly rfl snn;have Tb:=T.move (L':=Lb) (λ_ _=>rfl) gi;have hcb:ZE (newL s none).ls=ZA ps []:=by rw [Wa,hc,hm,<-hpl];rfl
  have Kb:=WD K (o:=none) trivial (by first | decide | lia) (by first | decide | lia);have Vb:=VV.newL K (o:=none) trivial (by first | decide | lia) (by first | decide | lia);rw [<-g0,<-g2,<-g3,<-g4,<-gd,<-gl];have gtow:=Ib.x Tb.row;have grefs:=Ib.x Tb.refs;clear I T VV K fixb g0 g1 g2 gd gi g3 g4 gl hc;w_fin;refine ⟨1,rfl,?_⟩;refine V9 gtow (by first | decide | lia) (by first | decide | lia) (by simp [Za];lia) (v:=.int (ps.length-1:Nat)) ?_ ?_ (by exact rfl)
  · have e9:((-1:Int)+((Za (List.range ps.length)).length:Int)).toNat=ps.length-1:=by simp only [Za,List.length_map,List.length_range];lia
    have e10:ps.length-1<ps.length:=by lia
    rw [e9];simp [Za,e10]
  w_fin;refine ⟨by simp,?_⟩;refine WJ (by exact rfl) (by exact rfl) ZW trivial ?_;refine ZC (rl_u13) (.inl hFn) ?_;refine ZC (rl_u14) (.inl hFn) ?_;w_left;w_left;w_fin;refine Xq (λ_=>by exact rfl) (itL (rRevL ?_));refine rFlat (λq1 q2=>[(".0",none),("some",q1),("pair",q2)]) (λ_=>by exact rfl) (λ_ _=>by exact rfl) hF (by exact rfl) rfl (by exact rfl) (λ_ _ _=>UpdR.tail UpdR.head) (λ_ _ _=>UpdR.tail<|UpdR.tail UpdR.head) (λ_ _=>by kst_mem) (λ_ _=>by kst_mem)
    (λFc h=>by show Fc.env.scope.names.lookup _=_;rw [h];exact rfl) (λFc h=>by show Fc.env.scope.names.lookup _=_;rw [h];exact rfl) (itL ?_)
  w_fin;have ef:((List.range ps.length).map λi=>(Lb (.x (10+i)),(ps.getD i []).map Zh)).flatMap (·.2)=ps.flatten.map Zh:=by
    have:=J1 (ps:=ps) (k:=ps.length) (by first | decide | lia) (λi=>Lb (.x (10+i)));rwa [List.take_length] at this
  refine ⟨Lb (.x 4),_,rfl,grefs,rfl,λσ2 e=>e _ _ grefs,(List.range ps.length).map (λi=>(Lb (.x (10+i)),(ps.getD i []).map Zh)),by rw [List.map_map];rfl,?_,?_,λa9 ha9=>?_⟩
  · intro p hp;obtain ⟨i,hi,rfl⟩:=List.mem_map.mp hp;have hi':i<ps.length:=by simpa using hi
    refine Ib.x (Tb.each i _ ?_);simp [List.getD,hi']
  · rw [ef];simp only [List.length_map];lia
  rw [ef];refine ⟨a9,_,rfl,MH.set_same ..,by simp only [List.length_map];lia,λD hD=>?_⟩;have If0:=Ib.ext (Ext.set (mo:=.list (ps.flatten.map Zh)) ha9);generalize σb.set a9 (.list (ps.flatten.map Zh))=σc at If0 hD ⊢;rw [<-List.map_reverse];obtain ⟨Lf,Iff,e55,e5,_⟩:=If0.openX hD 5 (z 5 (by first | decide | lia) (by first | decide | lia)) (.list (ps.flatten.reverse.map Zh));subst e55;have zf:∀n,6<=n->(n<10\/20<=n)->exS ex 5 (some (.list (ps.flatten.reverse.map Zh))) n=none:=λn h5 hr=>by rw [Zj (by first | decide | lia)];exact z n (by first | decide | lia) hr
  have hf5:exS ex 5 (some (.list (ps.flatten.reverse.map Zh))) 5=some (.list (ps.flatten.reverse.map Zh)):=Zr ..;have bl:=e5 .ly (gne rfl);rw [<-bl];generalize exS ex 5 (some (.list (ps.flatten.reverse.map Zh)))=exf at Iff zf hf5;generalize σc.set (Lf (.x 5)) (.list (ps.flatten.reverse.map Zh))=σd at Iff ⊢;have hin:∀q∈ps.flatten,q.1<h.nodes.length/\q.2<h.nodes.length:=λq hq=>by
    obtain ⟨l,hl,hql⟩:=List.mem_flatten.mp hq;exact hps l hl q hql
  refine ⟨Lf (.x 5),_,rfl,Iff.x hf5,.inl rfl,λits ρ σe=>E6 λdone rest Le se qa qb=>A9 (ps.flatten.reverse=done++rest) (its=rest.map Zh) (Inv σe Le ⟨some h,some se,exf⟩) (ZE se.ls=ZA ps done) (LOk se) (LV h.nodes [] (root h.ab) se.ls Xi) (Le (.x 5)=Lf (.x 5)) (Le .ly=Lf .ly) (ρ=ZR sa (Lb (.x 0)) (Lb .d) (Lb (.x 2)) o1 o2 (some (.inst 190 (Lf .ly))) (some (.ref (Lb (.x 3)))) o3 (some (.ref (Lb (.x 4)))) qa qb oh (some (.int s.many)) (some (.int (ps.length-1:Nat)))),
    ⟨[],_,Lf,newL s none,oa,ob,rfl,rfl,Iff,hcb,Kb,Vb,rfl,rfl,rfl⟩,?_,?_,?_⟩
  · rintro its ρ σe ⟨done,rest,Le,se,qa,qb,_,_,Ie,_,_,_,el5,_⟩;rw [<-el5];exact Ie.x hf5
  · rintro v its Kc hKc ρ σe ⟨done,rest,Le,se,qa,qb,e1,e2,Ie,hce,Ke,Ve,el5,ell,rfl⟩;cases rest with
    | nil=>simp at e2
    | cons pr rest=>
      simp only [List.map_cons,List.cons.injEq] at e2;obtain ⟨rfl,rfl⟩:=e2;obtain ⟨a,b⟩:=pr;have hall:∀q∈done++(a,b)::rest,q.1<h.nodes.length/\q.2<h.nodes.length:=λq hq=>by
        rw [<-e1,List.mem_reverse] at hq;exact hin q hq
      obtain ⟨ha,hb⟩:a<h.nodes.length/\b<h.nodes.length:=hall (a,b) (by simp);have hdone:∀q∈done,q.1<h.nodes.length/\q.2<h.nodes.length:=λq hq=>hall q (List.mem_append_left _ hq);have hdl:done.length<=3:=by
        have:=congrArg List.length e1;rw [List.length_reverse,List.length_append] at this;lia
      obtain ⟨x,hx,hxu,hxt⟩:=Jf Ke hce;refine WJ (by exact rfl) (by exact rfl) ZW trivial ?_;refine ZC (rl_u10) (.inl hFn) ?_;refine ZC (rl_u11) (.inl hFn) ?_;w_left;w_left;rw [<-ell];ktf_call 8;rw [hm,<-hpl];refine Fn.useV (JU ok Ie H Ke hx Ve (W6 hce hps hdone) (by rw [hxt];lia) (zf 100 (by first | decide | lia) (by first | decide | lia)) (zf 102 (by first | decide | lia) (by first | decide | lia)) ha hb) (by decide) ?_;rintro σi ⟨Li,lsi,Ii,fixi,hci,Ki,Vi⟩;refine ⟨rfl,?_⟩;w_left;exact ⟨done++[(a,b)],rest,Li,_,_,_,by rw [e1];simp,rfl,Ii,by show ZE lsi=_;rw [hci,Wg,hce,Vk],Ki,Vi,by rw [fixi.x hf5,el5],by rw [fixi .ly rfl snn,ell],by rw [ell,hm,<-hpl] <;> rfl⟩
  rintro ρ σe ⟨done,rest,Le,se,qa,qb,e1,e2,Ie,hce,Ke,Ve,el5,ell,rfl⟩;have hrest:rest=[]:=by cases rest with
    | nil=>rfl
    | cons _ _=>simp at e2
  subst hrest;rw [List.append_nil] at e1;have efn:=Ul Ke hce Ve (by first | decide | lia) (λq=>by rw [<-e1,List.mem_reverse]);obtain ⟨x,hx,_⟩:=Jf Ke hce;obtain ⟨y,hy,_⟩:=Jm Ke hce (i:=ps.length-1) (by first | decide | lia);rw [<-ell,hm,<-hpl];have h60:=H.small;w_left;w_left;w_left;ktf_call 4;refine Fn.mono (YH ok Ie H Ke (o:=some ps.length) ⟨x,hx⟩) (by decide) ?_;rintro m σ1 ⟨D1,ob1,hD1,rfl,rfl,js1,rfl,nd1,srt1,mem1⟩;have I1:=Ie.garb (o:=.list (js1.map V.int)) hD1;ktf_call 4;refine Fn.mono (YH ok I1 H Ke (o:=some (ps.length-1)) ⟨y,hy⟩) (by decide) ?_;rintro m σ2 ⟨D2,ob2,hD2,rfl,rfl,js2,rfl,nd2,srt2,mem2⟩;have ejs:js1=js2:=Jr nd1 nd2 srt1 srt2 λk=>by rw [mem1,mem2,efn]
  refine Wf (as:=js1.map Ug) (bs:=js2.map Ug) (Y3 _) (Y3 _) (Ext.set hD2 _ _ (MH.set_same ..)) (MH.set_same ..) (Vs _) (Vs _) ⟨_,rfl,?_⟩;refine ifN (by simp [ejs]) ?_;have I2:=I1.garb (o:=.list (js2.map V.int)) hD2;generalize (σe.set D1 (.list (js1.map V.int))).set D2 (.list (js2.map V.int))=σ3 at I2 ⊢;w_fin;refine Wl (λ_=>by exact rfl) hF (by exact rfl) rfl (itL ?_);ktf_call 4;refine Fn.mono (YH ok I2 H Ke (o:=some (ps.length-1)) ⟨y,hy⟩) (by decide) ?_;rintro m σ4 ⟨D4,ob4,hD4,rfl,rfl,js4,rfl,nd4,srt4,mem4⟩;have I4:=I2.garb (o:=.list (js4.map V.int)) hD4;have g4:=MH.set_same σ3 D4 (.list (js4.map V.int));generalize σ3.set D4 (.list (js4.map V.int))=σ5 at I4 g4 ⊢;have hjl:js4.length<=100000:=by
    have hsub:∀k∈js4,k∈(List.range 60).map λ(i:Nat)=>(i:Int):=λk hk=>by
      obtain ⟨a,ha,rfl⟩:=(mem4 k).1 hk;have:=(Ve.each _ y hy id).rp.1 a;exact List.mem_map_of_mem (f:=λ(i:Nat)=>(i:Int)) (List.mem_range.mpr (by first | decide | lia))
    have:=List.Nodup.length_le_of_subset nd4 hsub;simp at this;lia
  refine ⟨D4,_,rfl,g4,.inr ⟨rfl,rfl⟩,λa5 ha5=>?_⟩;refine csF (p:=λ_=>false) (f:=id) (W3 (λq=>[(".0",none),("c",q),("layers",some (.inst 190 (Le .ly))),("single",some (.int ps.length)),("top",some (.int (ps.length-1:Nat)))]) (λ_ _=>UpdR.tail UpdR.head) (λFc h=>by show Fc.env.scope.names.lookup _=_;rw [h];exact rfl)) (by simpa using hjl) ha5 (λσ2 e=>e _ _ g4) ?_ ?_ ?_
  · intro Fc hFc hFn' v hv σ6 e6;obtain ⟨k,hk,rfl⟩:=List.mem_map.mp hv;obtain ⟨a,ha,rfl⟩:=(mem4 k).1 hk;have hc:fnd se.ls (root h.ab) (some (ps.length-1)) a<h.nodes.length:=by
      have:=(Ve.each _ y hy id).rp.1 a;lia
    refine WB.conseq (Q':=λb σ'=>Ext σ6 σ'/\b=false) ?_ (λb σ' ⟨e,h⟩=>⟨σ6,e,rfl,h⟩);have I6:=I4.ext e6;w_left;ktf_call 4;refine Fn.useN (Xj ok I6 H Ke (o:=some ps.length) ⟨x,hx⟩ hc) (by decide) ?_;intro D7 hD7;have I7:=Inv.garb (o:=.list (Za ((List.range h.nodes.length).filter λn=>decide (fnd se.ls (root h.ab) (some ps.length) n=fnd se.ls (root h.ab) (some ps.length) (fnd se.ls (root h.ab) (some (ps.length-1)) a))))) I6 hD7;ktf_call 4;refine Fn.useN (Xj ok I7 H Ke (o:=some (ps.length-1)) ⟨y,hy⟩ hc) (by decide) ?_;intro D8 hD8;refine Wf (Y3 _) (Y3 _) (Ext.set hD8 _ _ (MH.set_same ..)) (MH.set_same ..) (Vy _) (Vy _) ⟨_,rfl,(Ext.set hD7).trans (Ext.set hD8),?_⟩;rw [efn];simp
  · intro Fc hFc hFn' v hv σ6 e6;w_fin;exact ⟨rfl,rfl⟩
  · have e9:((js4.map V.int).filter λ_=>false).map id=[]:=by simp
    rw [e9];w_fin;refine ⟨by simp,λD9 hD9=>?_⟩;exact p_eql (as:=[]) (bs:=[]) rfl rfl (Ext.set hD9 _ _ (MH.set_same ..)) (MH.set_same ..) rfl rfl (unK hK_ rfl)
end
set_option tactic.hygienic false
theorem items_int:∀{xs:List WData},WShape.hasItems [] xs .int=true->∃is:List Int,xs=is.map .int:=λ{xs}=>by
  induction xs with
  | nil=>exact λ_=>⟨[],rfl⟩
  | cons x r ih=>
    intro h;unfold WShape.hasItems at h;have h':=Bool.and_eq_true_iff.mp h;obtain ⟨is,e⟩:=ih h'.2;rw [e];cases x with
    | int i=>exact ⟨i::is,rfl⟩
    | _=>exact absurd (show false=true from h'.1) Bool.false_ne_true
theorem holds_lit {R:WRecords} {e:WCtx} (b:Bool):(WTm.lit (.bool b)).holds R e=b:=by cases b <;> rfl
theorem holds_not {e:WCtx} (b:Bool):(WTm.and (.not (.lit (.bool b))) (.lit (.bool true))).holds [] e=!b:=by cases b <;> rfl
theorem args_of {args:List WData} (h:PySem.Challenge.rw_pq0083_01.row.claim.pre args=true):∃is:List Int,args=[.list (is.map .int)]/\is.length<=63:=by
  have h':(WShape.hasAll [] args [.list .int]&&(PySem.Challenge.rw_pq0083_01.pre).holds [] { args:=args })=true:=h;obtain ⟨h1,h2⟩:=Bool.and_eq_true_iff.mp h';clear h h';cases args with
  | nil=>exact absurd (show false=true from h1) Bool.false_ne_true
  | cons x r=>
    cases r with
    | cons y r=>exact absurd (Bool.and_eq_true_iff.mp (show (WShape.has [] x (.list .int)&&false)=true from h1)).2 Bool.false_ne_true
    | nil=>
      have h3:WShape.has [] x (.list .int)=true:=(Bool.and_eq_true_iff.mp (show (WShape.has [] x (.list .int)&&_)=true from h1)).1;clear h1;cases x with
      | list xs=>
        have h4:WShape.hasItems [] xs .int=true:=(Bool.or_false _).symm.trans (show (WShape.hasItems [] xs .int||false)=true from h3);obtain ⟨is,rfl⟩:=items_int h4;refine ⟨is,rfl,?_⟩;have h5:(!(decide ((63:Int)<((is.map WData.int).length:Int))))=true:=(holds_not (e:={ args:=[.list (is.map .int)] }) _).symm.trans (show (WTm.and (.not (.lt (.lit (.int 63)) (.len (.arg 0)))) (.lit (.bool true))).holds [] { args:=[.list (is.map .int)] }=true from h2);have h6:=of_decide_eq_false ((Bool.not_eq_true' _).mp h5);rw [List.length_map] at h6;lia
      | _=>exact absurd (show false=true from h3) Bool.false_ne_true
theorem Ux {R:WRecords} {cl:Str->Option Addr} {h:Heap}:∀{is:List Int} {vs:List Value} {as:List Addr},ReadsAllW R cl h vs (is.map .int) as->IntsAre vs is:=λ{is}=>by
  induction is with
  | nil=>intro vs as r;cases r;exact .nil
  | cons i is ih=>
    intro vs as r;cases r with
    | cons a b=>
      cases a;exact .cons _ _ (ih b)
set_option tactic.hygienic false
theorem post_01 (is:List Int):PySem.Challenge.rw_pq0083_01.row.claim.post [WData.list (List.map WData.int is)] (WData.bool true)
      [WData.list (List.map WData.int is)]=true:=by
  have h1:WShape.has PySem.Challenge.rw_pq0083_01.row.records (WData.bool true) PySem.Challenge.rw_pq0083_01.row.returns=true:=by decide +kernel
  have h2:(WTm.eq .res (.lit (.bool true))).holds PySem.Challenge.rw_pq0083_01.row.records { args:=[WData.list (List.map WData.int is)],res:=some (WData.bool true),after:=[WData.list (List.map WData.int is)] }=true:=by
    exact (holds_lit (R:=[]) (e:={ args:=[] }) _).trans (show same (WData.bool true) (WData.bool true)=true by decide +kernel)
  have h3:=Bool.and_eq_true_iff.mpr ⟨h1,h2⟩;exact h3
set_option tactic.hygienic true in
theorem fin_01 {w:World} {s₁:Shared} {cl:Str->Option Addr} {mean:ExcName->Option Value} {args:List WData} {vals:List Value} {as:List Addr}
    (ok:SysOk (SS w s₁.heap)) (hg:s₁.gens=#[]) (hpre:PySem.Challenge.rw_pq0083_01.row.claim.pre args=true) (hrd:ReadsAllW PySem.Challenge.rw_pq0083_01.row.records cl s₁.heap vals args as) :
    wpAny (model PySem.Challenge.rw_pq0083_01.row.prog w) callerA (call (.ref 563) vals []) (λv s'=>GoodWG PySem.Challenge.rw_pq0083_01.row.claim cl mean args s₁ (.ok (.ret v)) s')
      (λe s'=>GoodWG PySem.Challenge.rw_pq0083_01.row.claim cl mean args s₁ (.error e) s') s₁:=by
  obtain ⟨is,rfl,hlen⟩:=args_of hpre;cases hrd with
  | cons hd hnil=>
    cases hnil;cases hd with
    | list ho hc hdt hall=>
      rename_i a o vs n as';have hia:=Ux hall;have B:JC (SS w s₁.heap) a is:=⟨vs.toList,⟨o,ho,hc,n,by simpa using hdt⟩,hia⟩;have g0:StG (SS w s₁.heap) (λ_=>none) s₁:=⟨λ_ _ e=>e,(λ_ _ e=>nomatch e),hg⟩;have R:KL (12,0) callerA:=⟨rfl,by decide,by decide,⟨_,rfl⟩,⟨_,rfl⟩⟩;refine wpAny_call (codeAny_mono (law_01 (σ:=λ_=>none) ok B (by lia) callerA s₁ [.ref a] R g0 (Zc.cons (by simp [vr0,vr1,vr2,vr3,vr4,vr5,vr6,vr7]) Zc.nil)) ?_);rintro r s' ⟨σ',u,m,rfl,st,g',ru,rfl⟩;simp only [vr0,vr1,vr2,vr3,vr4,vr5,vr6,vr7] at ru;subst ru;exact ⟨.inl ⟨.bool true,.bool true,[],rfl,λ_=>rfl,ReadsW.bool true,post_01 _,λ_=>⟨List.nodup_nil,λ_ hm=>nomatch hm⟩⟩,OldK.of_keep λb o e=>g'.base b o e,st.os,AllBare.of_eq g'.gens⟩
end Mine
theorem PySem.Challenge.cw_pq0083_01_holds : PySem.Challenge.rw_pq0083_01.Holds :=
  Mine.hd (by
  k_fill
  intro d kwd hde w s₀ s₁ mg mb G Y fa o pm cd doc dV kV ho hd hcd hD hmg hg args vals as hpre hlay hrd hwl hlo
  have KX := kIn_of Y
  clear hd hcd hD Y
  have ns : s₁.heap.NoSeer := G.T.seer (by decide +kernel)
  obtain ⟨mm, ⟨om, _, _, hom, _⟩, _⟩ := ns.mods
  have ok : Mine.SysOk (Mine.SS w s₁.heap) := ⟨KX, ⟨_, G.T.g⟩, ⟨_, G.T.b, G.T.builtins⟩, G.T.nolimit, ⟨om, hom⟩⟩
  have e := mg_of KX G.T.g (Mine.gl_law (w := w) (h0 := s₁.heap))
  have hfa : fa = 563 := by
    have := hmg.symm.trans ((congrArg mg (defOf_name hde)).trans e)
    injection this with this
    injection this
  subst hfa
  exact Mine.fin_01 ok hg hpre hrd)