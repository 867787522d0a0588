import PyProof.Rows.All
import Wide.All
import OpenK.AllK
import Wide.FinOn
import Lean
import PySem.Challenge.RW_og0028_01
set_option Elab.async false
set_option linter.all false
set_option maxRecDepth 100000
set_option maxHeartbeats 8000000
set_option autoImplicit false
set_option compiler.extract_closed false
namespace Mine
theorem le_lit {a b n : Nat} (h : b ≤ n) (e : Nat.ble a b = true) : a ≤ n := Nat.le_trans (Nat.le_of_ble_eq_true e) h
theorem le_lit1 {a b n : Nat} (h : b ≤ n + 1) (e : Nat.ble (a + 1) b = true) : a ≤ n := Nat.le_of_succ_le_succ (le_lit h e)
@[elab_as_elim] theorem rwg {α : Sort _} {p : α → Prop} {a b : α} (e : a = b) (h : p b) : p a := e ▸ h
@[elab_as_elim] theorem rwb {α : Sort _} {p : α → Prop} {a b : α} (e : b = a) (h : p b) : p a := e ▸ h
@[elab_as_elim] theorem rwi {p : Prop → Prop} {a b : Prop} (e : a ↔ b) (h : p b) : p a := propext e ▸ h
section
variable {α β ε : Type _} {a b : α} {x y : ε} {s t : β} {P : Prop}
theorem no_none (e : (none : Option α) = some a) : P := nomatch e
theorem no_some (e : some a = none) : P := nomatch e
theorem no_oe (e : some (Except.ok (ε := ε) a, s) = some (Except.error x, t)) : P := nomatch e
theorem no_eo (e : some (Except.error (α := α) x, s) = some (Except.ok a, t)) : P := nomatch e
theorem ret_ok {P : α → β → Prop} (h : P a s) (e : some (Except.ok (ε := ε) a, s) = some (Except.ok b, t)) : P b t := by cases e; exact h
theorem ret_er {P : ε → β → Prop} (h : P x s) (e : some (Except.error (α := α) x, s) = some (Except.error y, t)) : P y t := by cases e; exact h
theorem ret_2 {P : α → β → Prop} (h : P a s) (e : some (a, s) = some (b, t)) : P b t := by cases e; exact h
theorem ret_1 {P : α → Prop} (h : P a) (e : some a = some b) : P b := by cases e; exact h
theorem no_tf (e : true = false) : P := nomatch e
theorem no_ft (e : false = true) : P := nomatch e
end
theorem ex03 {p0 p1 p2 : Prop} {P : Prop} (h : p0 ∧ p1 ∧ p2) (k : p0 → p1 → p2 → P) : P := k h.1 h.2.1 h.2.2
theorem ex12 {α : Sort _} {p0 p1 : α → Prop} {P : Prop} (h : ∃ x0, p0 x0 ∧ p1 x0) (k : ∀ x0, p0 x0 → p1 x0 → P) : P := h.elim fun x0 h => k x0 h.1 h.2
theorem ex21 {α β : Sort _} {p0 : α → β → Prop} {P : Prop} (h : ∃ x0 x1, p0 x0 x1) (k : ∀ x0 x1, p0 x0 x1 → P) : P := h.elim fun x0 h => h.elim fun x1 h => k x0 x1 h
theorem ex04 {p0 p1 p2 p3 : Prop} {P : Prop} (h : p0 ∧ p1 ∧ p2 ∧ p3) (k : p0 → p1 → p2 → p3 → P) : P := k h.1 h.2.1 h.2.2.1 h.2.2.2
theorem ex13 {α : Sort _} {p0 p1 p2 : α → Prop} {P : Prop} (h : ∃ x0, p0 x0 ∧ p1 x0 ∧ p2 x0) (k : ∀ x0, p0 x0 → p1 x0 → p2 x0 → P) : P := h.elim fun x0 h => k x0 h.1 h.2.1 h.2.2
theorem ex22 {α β : Sort _} {p0 p1 : α → β → Prop} {P : Prop} (h : ∃ x0 x1, p0 x0 x1 ∧ p1 x0 x1) (k : ∀ x0 x1, p0 x0 x1 → p1 x0 x1 → P) : P := h.elim fun x0 h => h.elim fun x1 h => k x0 x1 h.1 h.2
theorem ex31 {α β γ : Sort _} {p0 : α → β → γ → Prop} {P : Prop} (h : ∃ x0 x1 x2, p0 x0 x1 x2) (k : ∀ x0 x1 x2, p0 x0 x1 x2 → P) : P := h.elim fun x0 h => h.elim fun x1 h => h.elim fun x2 h => k x0 x1 x2 h
theorem ex05 {p0 p1 p2 p3 p4 : Prop} {P : Prop} (h : p0 ∧ p1 ∧ p2 ∧ p3 ∧ p4) (k : p0 → p1 → p2 → p3 → p4 → P) : P := k h.1 h.2.1 h.2.2.1 h.2.2.2.1 h.2.2.2.2
theorem ex14 {α : Sort _} {p0 p1 p2 p3 : α → Prop} {P : Prop} (h : ∃ x0, p0 x0 ∧ p1 x0 ∧ p2 x0 ∧ p3 x0) (k : ∀ x0, p0 x0 → p1 x0 → p2 x0 → p3 x0 → P) : P := h.elim fun x0 h => k x0 h.1 h.2.1 h.2.2.1 h.2.2.2
theorem ex23 {α β : Sort _} {p0 p1 p2 : α → β → Prop} {P : Prop} (h : ∃ x0 x1, p0 x0 x1 ∧ p1 x0 x1 ∧ p2 x0 x1) (k : ∀ x0 x1, p0 x0 x1 → p1 x0 x1 → p2 x0 x1 → P) : P := h.elim fun x0 h => h.elim fun x1 h => k x0 x1 h.1 h.2.1 h.2.2
theorem ex32 {α β γ : Sort _} {p0 p1 : α → β → γ → Prop} {P : Prop} (h : ∃ x0 x1 x2, p0 x0 x1 x2 ∧ p1 x0 x1 x2) (k : ∀ x0 x1 x2, p0 x0 x1 x2 → p1 x0 x1 x2 → P) : P := h.elim fun x0 h => h.elim fun x1 h => h.elim fun x2 h => k x0 x1 x2 h.1 h.2
theorem ex06 {p0 p1 p2 p3 p4 p5 : Prop} {P : Prop} (h : p0 ∧ p1 ∧ p2 ∧ p3 ∧ p4 ∧ p5) (k : p0 → p1 → p2 → p3 → p4 → p5 → P) : P := k h.1 h.2.1 h.2.2.1 h.2.2.2.1 h.2.2.2.2.1 h.2.2.2.2.2
theorem ex24 {α β : Sort _} {p0 p1 p2 p3 : α → β → Prop} {P : Prop} (h : ∃ x0 x1, p0 x0 x1 ∧ p1 x0 x1 ∧ p2 x0 x1 ∧ p3 x0 x1) (k : ∀ x0 x1, p0 x0 x1 → p1 x0 x1 → p2 x0 x1 → p3 x0 x1 → P) : P := h.elim fun x0 h => h.elim fun x1 h => k x0 x1 h.1 h.2.1 h.2.2.1 h.2.2.2
theorem ex33 {α β γ : Sort _} {p0 p1 p2 : α → β → γ → Prop} {P : Prop} (h : ∃ x0 x1 x2, p0 x0 x1 x2 ∧ p1 x0 x1 x2 ∧ p2 x0 x1 x2) (k : ∀ x0 x1 x2, p0 x0 x1 x2 → p1 x0 x1 x2 → p2 x0 x1 x2 → P) : P := h.elim fun x0 h => h.elim fun x1 h => h.elim fun x2 h => k x0 x1 x2 h.1 h.2.1 h.2.2
theorem ex25 {α β : Sort _} {p0 p1 p2 p3 p4 : α → β → Prop} {P : Prop} (h : ∃ x0 x1, p0 x0 x1 ∧ p1 x0 x1 ∧ p2 x0 x1 ∧ p3 x0 x1 ∧ p4 x0 x1) (k : ∀ x0 x1, p0 x0 x1 → p1 x0 x1 → p2 x0 x1 → p3 x0 x1 → p4 x0 x1 → P) : P := h.elim fun x0 h => h.elim fun x1 h => k x0 x1 h.1 h.2.1 h.2.2.1 h.2.2.2.1 h.2.2.2.2
theorem ex34 {α β γ : Sort _} {p0 p1 p2 p3 : α → β → γ → Prop} {P : Prop} (h : ∃ x0 x1 x2, p0 x0 x1 x2 ∧ p1 x0 x1 x2 ∧ p2 x0 x1 x2 ∧ p3 x0 x1 x2) (k : ∀ x0 x1 x2, p0 x0 x1 x2 → p1 x0 x1 x2 → p2 x0 x1 x2 → p3 x0 x1 x2 → P) : P := h.elim fun x0 h => h.elim fun x1 h => h.elim fun x2 h => k x0 x1 x2 h.1 h.2.1 h.2.2.1 h.2.2.2
theorem ex43 {α β γ δ : Sort _} {p0 p1 p2 : α → β → γ → δ → Prop} {P : Prop} (h : ∃ x0 x1 x2 x3, p0 x0 x1 x2 x3 ∧ p1 x0 x1 x2 x3 ∧ p2 x0 x1 x2 x3) (k : ∀ x0 x1 x2 x3, p0 x0 x1 x2 x3 → p1 x0 x1 x2 x3 → p2 x0 x1 x2 x3 → P) : P := h.elim fun x0 h => h.elim fun x1 h => h.elim fun x2 h => h.elim fun x3 h => k x0 x1 x2 x3 h.1 h.2.1 h.2.2
end Mine
local macro_rules | `(tactic| lia) => `(tactic| first
 | assumption
 | exact Nat.le_of_ble_eq_true rfl
 | exact Mine.le_lit (by assumption) rfl
 | exact Mine.le_lit1 (by assumption) rfl
 | lia (splits := 9)
 | omega)
local macro_rules
 | `(tactic| cases $e:ident) => `(tactic| first
  | exact Mine.no_none $e | exact Mine.no_some $e | exact Mine.no_oe $e | exact Mine.no_eo $e | exact Mine.no_tf $e | exact Mine.no_ft $e
  | (revert $e; first | refine Mine.ret_ok ?_ | refine Mine.ret_er ?_ | refine Mine.ret_2 ?_ | refine Mine.ret_1 ?_)
  | cases ($e))

set_option tactic.hygienic false
set_option genInjectivity false
set_option genSizeOf false
set_option backward.match.sparseCases false
namespace Mine
section
open PySem PySem.W PySem.Calls PyProof.Rows
noncomputable abbrev pwL:Program:=PySem.Challenge.rw_og0028_01.row.toRowW.1
noncomputable abbrev bodyL:List Stmt:=behindTheImports pwL
noncomputable def envL:Env:={ scope:=pwL.main.scope,locals:=mainNs,globals:=mainNs,cells:=[],code:=Value.ref 13,frame:=some 14 }
noncomputable abbrev codeL:Code:=.body bodyL envL
noncomputable abbrev pos0:Pos:={ line:=0,col:=0,endLine:=0,endCol:=0 }
noncomputable def ob11:Obj:={ cls:=Value.type "tuple",data:=Data.seq #[] }
noncomputable def ob12:Obj:={ cls:=Value.none,data:=Data.fields #[] }
noncomputable def ob13:Obj:={ cls:=Value.type "code",data:=Data.fields #[Value.str (Str.ofString "<module>") 182,Value.str (Str.ofString "<module>") 183,Value.str (Str.ofString "/claim/cut.py") 184,Value.int 1 0,Value.int 0 0,Value.int 0 0,Value.int 0 0,Value.int 0 0,Value.ref 11,Value.bool false,Value.int 181 0,Value.ref 12,Value.none,Value.none,Value.none,Value.none,Value.int 185 0,Value.int 1 0,Value.str (Str.ofString "/claim/cut.py") 186] }
noncomputable def ob14:Obj:={ cls:=Value.type "frame",slots:=#[some (Value.ref 13),some (Value.ref 3),some (Value.ref 3),none,some (Value.str (Str.ofString "__main__") 164),none,some (Value.ref 0)] }
noncomputable def heapA (P:Params):Heap:={ objs:=#[boot_o_0 P,boot_o_1 P,boot_o_2 P,boot_o_3 P,boot_o_4 P,boot_o_5 P,boot_o_6 P,boot_o_7 P,boot_o_8 P,boot_o_9 P,boot_o_10 P,ob11,ob12,ob13,ob14] }
noncomputable def treeA (P:Params):BT:=
 BT.node (boot_o_0 P)
  (BT.node (boot_o_1 P)
   (BT.node (boot_o_3 P) (BT.node (boot_o_7 P) BT.nil BT.nil) (BT.node ob11 BT.nil BT.nil))
   (BT.node (boot_o_5 P) (BT.node (boot_o_9 P) BT.nil BT.nil) (BT.node ob13 BT.nil BT.nil)))
  (BT.node (boot_o_2 P)
   (BT.node (boot_o_4 P) (BT.node (boot_o_8 P) BT.nil BT.nil) (BT.node ob12 BT.nil BT.nil))
   (BT.node (boot_o_6 P) (BT.node (boot_o_10 P) BT.nil BT.nil) (BT.node ob14 BT.nil BT.nil)))
theorem tbEq:treeTable=PySem.W.Fast.tw14364793385576792824:=PySem.W.Fast.te14364793385576792824
theorem tgEq:@topGo = @PySem.W.Fast.tw15667345088766844465:=PySem.W.Fast.te15667345088766844465
theorem dnEq:@denote = @PySem.W.Fast.tw11892475500146522536:=PySem.W.Fast.te11892475500146522536
theorem h_open:opening pwL=plainProg pwL.main.scope.names:=by kernel_rfl
theorem h_fence (s:Shared):fenceModules? pwL s=some s:=by kernel_rfl
theorem h_size (w:World):((boot_heap w.params).isNs mainGlobals && (#[]:Array GenState).size == 0,(boot_heap w.params).objs.size,(boot_heap w.params).nsMap mainGlobals "__annotations__")=(true,11,some (.ref 6)):=by kernel_rfl
theorem h_pre (w:World) (os:OsState):topGo treeTable pwL w 11 (some (.ref 6)) 12 ⟨boot_heap w.params,#[],boot_drawn,boot_toks,os⟩ (topStub pwL) =
  some (⟨heapA w.params,#[],{},187,os⟩,⟨denote treeTable codeL,codeL,pos0,[topFrame pos0]⟩):=by
 rw [tgEq,tbEq,dnEq]
 kernel_rfl
theorem h_blk (w:World) (os:OsState):segRun treeTable pwL w 11 (some (.ref 6)) 1 1 ⟨heapA w.params,#[],{},187,os⟩ (blockOf bodyL envL codeL pos0 [topFrame pos0]) =
  some (.next,(SharedT.mk (treeA w.params) 15 {} #[] {} 187 os).abs,codeL,pos0):=by
 rw [tbEq]
 kernel_rfl
theorem h_fin (w:World) (s:Shared) (c:Code) (p:Pos):topRun treeTable pwL w 11 (some (.ref 6)) 2 s ⟨doneF .next,c,p,[topFrame pos0]⟩=some s:=by
 rfl
end
section
open PySem PySem.W
inductive BI where
 | len | max | int | isinstance | all | chr | tuple | list | str | range
 deriving DecidableEq
set_option genInjectivity true in
inductive AV where
 | none | bool (b:Bool) | int (i:Int) | str (s:List Nat) | tup (l:List AV) | obj (i:Nat) | val (a:Nat) | bi (b:BI) | fl (l:List Int) | rng (a b:Int)
set_option genInjectivity true in
inductive AO where
 | list (l:List AV) | inst (C:Nat) (fs:List (Str×AV)) | dict (fs:List (Str×AV))
noncomputable abbrev AH:=List AO
noncomputable def PM (α:Type):=AH→Option (Except AV α×AH)
namespace PM
@[reducible] noncomputable def fail {α:Type}:PM α:=λ zz=>Option.none
@[reducible] noncomputable def throw {α:Type} (e:AV):PM α:=λ σ=>some (.error e,σ)
noncomputable def ofOpt {α:Type}:Option α→PM α
 | some a=>λ σ=>some (.ok a,σ)
 | Option.none=>λ zz=>Option.none
noncomputable def andThen {α β:Type} (m:PM α) (f:α→PM β):PM β:=λ σ=>match m σ with
 | Option.none=>Option.none
 | some (.error e,σ')=>some (.error e,σ')
 | some (.ok a,σ')=>f a σ'
end PM
noncomputable instance:Monad PM where
 pure a:=λ σ=>some (.ok a,σ)
 bind:=PM.andThen
open PM
noncomputable def getO (i:Nat):PM AO:=λ σ=>match σ[i]? with | some o=>some (.ok o,σ) | Option.none=>Option.none
noncomputable def setO (i:Nat) (o:AO):PM Unit:=λ σ=>some (.ok (),σ.set i o)
noncomputable def newO (o:AO):PM AV:=λ σ=>some (.ok (.obj σ.length),σ++[o])
noncomputable def lsO (i:Nat):PM (List AV):=do match ← getO i with | .list l=>pure l | _=>fail
noncomputable def maxLen:Nat:=1000000
noncomputable def newL (l:List AV):PM AV:=if l.length≤maxLen then newO (.list l) else fail
noncomputable def kvGet:List (Str×AV)→Str→Option AV
 | [],zz=>Option.none
 | (x,v) :: r,y=>if x=y then some v else kvGet r y
noncomputable def kvSet:List (Str×AV)→Str→AV→List (Str×AV)
 | [],y,v=>[(y,v)]
 | (x,w) :: r,y,v=>if x=y then (x,v) :: r else (x,w) :: kvSet r y v
noncomputable def smallI (a:Int):Bool:=decide (a.natAbs < 2 ^ 63)
noncomputable def binA:Operator→AV→AV→PM AV
 | .Add,.int a,.int b=>pure (.int (a + b))
 | .Add,.str a,.str b=>if a.length + b.length≤maxLen then pure (.str (a++b)) else fail
 | .Add,.obj i,.obj j=>do let a ← lsO i;let b ← lsO j;newL (a++b)
 | .Sub,.int a,.int b=>pure (.int (a - b))
 | .Mult,.int a,.int b=>if smallI a || smallI b then pure (.int (a * b)) else fail
 | .FloorDiv,.int a,.int b=>if b≠0∧smallI b=true then pure (.int (a.fdiv b)) else fail
 | .Mod,.int a,.int b=>if b≠0 then pure (.int (a.fmod b)) else fail
 | .Pow,.int a,.int b=>if 0≤b∧b≤1000000∧smallI a=true then pure (.int (a ^ b.toNat)) else fail
 | zz,zy,zx=>fail
@[elab_as_elim] theorem list2 {α:Type} {P:List α→Prop} (l:List α) (h0:P []) (h1:∀ a,P [a]) (h2:∀ a b,P [a,b]) (h3:∀ a b c l,P (a :: b :: c :: l)):P l:=by
 cases l with
 | nil=>exact h0
 | cons a l=>cases l with
  | nil=>exact h1 a
  | cons b l=>cases l with
   | nil=>exact h2 a b
   | cons c l=>exact h3 a b c l
noncomputable def eqFlat:AV→AV→Option Bool
 | .int a,.int b=>some (a == b)
 | .str a,.str b=>some (decide (a=b))
 | .bool a,.bool b=>some (a == b)
 | zz,zy=>Option.none
noncomputable def both (f:Bool→Bool→Bool):Option Bool→Option Bool→Option Bool
 | some p,some q=>some (f p q)
 | zz,zy=>Option.none
noncomputable def eqAll:List AV→List AV→Option Bool
 | [],[]=>some true
 | a :: r,b :: s=>both and (eqFlat a b) (eqAll r s)
 | zz,zy=>Option.none
noncomputable def eqLists (a b:List AV):Option Bool:=if a.length=b.length then eqAll a b else some false
noncomputable def eqTup (a b:List AV):Option Bool:=if a.length=b.length then eqAll a b else Option.none
noncomputable def eqObj (σ:AH) (i j:Nat):Option Bool:=match σ[i]?,σ[j]? with
  | some (.list a),some (.list b)=>if i=j then Option.none else eqLists a b
  | zz,zy=>Option.none
noncomputable def eqA (σ:AH):AV→AV→Option Bool
 | .obj i,.obj j=>eqObj σ i j
 | .tup a,.tup b=>eqTup a b
 | a,b=>eqFlat a b
noncomputable def inBy (f:AV→Option Bool):List AV→Option Bool
 | []=>some false
 | b :: r=>both or (f b) (inBy f r)
noncomputable def inFlat (a:AV) (l:List AV):Option Bool:=inBy (λ b=>eqFlat b a) l
noncomputable def inLists (σ:AH) (i:Nat) (l:List AV):Option Bool:=inBy (λ b=>eqA σ b (.obj i)) l
noncomputable def inA (σ:AH):AV→AV→Option Bool
 | .str [c],.str s=>some (decide (c∈s))
 | .obj i,.obj j=>match σ[j]? with | some (.list l)=>inLists σ i l | _=>Option.none
 | .str a,.obj j=>match σ[j]? with | some (.list l)=>inFlat (.str a) l | _=>Option.none
 | .int a,.obj j=>match σ[j]? with | some (.list l)=>inFlat (.int a) l | _=>Option.none
 | .str a,.tup l=>inFlat (.str a) l
 | zz,zy=>Option.none
noncomputable def isNone:AV→Bool
 | .none=>true
 | _=>false
noncomputable def leTup:AV→AV→Option Bool
 | .tup [.int a,.int b],.tup [.int c,.int d]=>some (if a=c then decide (b≤d) else decide (a < c))
 | zz,zy=>Option.none
noncomputable def cmpV (σ:AH):CmpOp→AV→AV→Option Bool
 | .Eq,a,b=>eqA σ a b
 | .NotEq,a,b=>(eqA σ a b).map (!·)
 | .Lt,.int a,.int b=>some (decide (a < b))
 | .LtE,.int a,.int b=>some (decide (a≤b))
 | .LtE,.tup a,.tup b=>leTup (.tup a) (.tup b)
 | .Gt,.int a,.int b=>some (decide (b < a))
 | .GtE,.int a,.int b=>some (decide (b≤a))
 | .Is,a,.none=>some (isNone a)
 | .IsNot,a,.none=>some (!isNone a)
 | .In,a,b=>inA σ a b
 | .NotIn,a,b=>(inA σ a b).map (!·)
 | zz,zy,zx=>Option.none
noncomputable def cmpA (op:CmpOp) (a b:AV):PM Bool:=λ σ=>match cmpV σ op a b with | some r=>some (.ok r,σ) | Option.none=>Option.none
noncomputable def truthA:AV→PM Bool
 | .bool b=>pure b
 | _=>fail
noncomputable def placeOf (k:Int) (n:Nat):Option Nat:=
 if 0≤k then (if k < n then some k.toNat else Option.none) else (if 0≤k + n then some (k + n).toNat else Option.none)
noncomputable def subA:AV→AV→PM AV
 | .obj i,.int k=>do match ← getO i with
  | .list l=>ofOpt ((placeOf k l.length).bind λ j=>l[j]?)
  | _=>fail
 | .obj i,.str s=>do match ← getO i with
  | .dict fs=>ofOpt (kvGet fs ⟨s.toArray⟩)
  | _=>fail
 | .tup l,.int k=>ofOpt ((placeOf k l.length).bind λ j=>l[j]?)
 | .str s,.int k=>ofOpt (((placeOf k s.length).bind λ j=>s[j]?).map λ c=>.str [c])
 | .fl l,.int k=>ofOpt (((placeOf k l.length).bind λ j=>l[j]?).map .int)
 | zz,zy=>fail
noncomputable def cutOf (n:Nat) (d:Nat):AV→Option Nat
 | .none=>some d
 | .int k=>if smallI k=true then some (if 0≤k then min k.toNat n else (k + n).toNat) else Option.none
 | _=>Option.none
noncomputable def sliceL {α:Type} (l:List α) (lo hi:AV):Option (List α):=match cutOf l.length 0 lo,cutOf l.length l.length hi with
 | some a,some b=>some ((l.take b).drop a)
 | zz,zy=>Option.none
noncomputable def sliceA:AV→AV→AV→PM AV
 | .obj i,lo,hi=>do
  let l ← lsO i
  let r ← ofOpt (sliceL l lo hi)
  newO (.list r)
 | .str s,lo,hi=>do
  let r ← ofOpt (sliceL s lo hi)
  pure (.str r)
 | zz,zy,zx=>fail
structure Tb where
 glob:Str→Option AV
 fn:Nat→Option (List Str×List Stmt×Scope)
 ini:Nat→Option Nat
 inst:Nat→Bool
 fld:Nat→Str→Bool
 meth:Nat→Str→Option Nat
 exc:Nat
structure Cx where
 T:Tb
 call:Nat→List AV→PM AV
 fuel:Nat
noncomputable def attrA (T:Tb):AV→Str→PM AV
 | .obj i,x=>do match ← getO i with
  | .inst C fs=>if T.fld C x=true then ofOpt (kvGet fs x) else fail
  | _=>fail
 | zz,zy=>fail
noncomputable def setAttrA (T:Tb):AV→Str→AV→PM Unit
 | .obj i,x,v=>do match ← getO i with
  | .inst C fs=>if T.fld C x=true∧fs.length≤20 then setO i (.inst C (kvSet fs x v)) else fail
  | _=>fail
 | zz,zy,zx=>fail
noncomputable def setItemA:AV→AV→AV→PM Unit
 | .obj i,.int k,v=>do match ← getO i with
  | .list l=>if 0≤k∧k < l.length then setO i (.list (l.set k.toNat v)) else fail
  | _=>fail
 | .obj i,.str s,v=>do match ← getO i with
  | .dict fs=>if (kvGet fs ⟨s.toArray⟩).isSome=true then setO i (.dict (kvSet fs ⟨s.toArray⟩ v)) else fail
  | _=>fail
 | zz,zy,zx=>fail
noncomputable def intWords:List (List Nat×Int):=[([53],5),([57,55],97),([45,49],-1),([49,49,49,52,49,49,50],1114112),([45,55,48],-70)]
noncomputable def bareWords:List (List Nat):=[[120],[102],[121,46,50],[124,97,32,98,124],[53],[45,55,48],[57,55],[45,49],[49,49,49,52,49,49,50]]
noncomputable def digWords:List (List Nat×Bool):=[([120],false),([102],false),([121,46,50],false),([124,97,32,98,124],false),([53],true),([55,48],true),([57,55],true),([49],true),([49,49,49,52,49,49,50],true)]
noncomputable def lookB:List (List Nat×Bool)→List Nat→Option Bool
 | [],zz=>Option.none
 | (x,v) :: r,y=>if x=y then some v else lookB r y
noncomputable def lookW:List (List Nat×Int)→List Nat→Option Int
 | [],zz=>Option.none
 | (x,v) :: r,y=>if x=y then some v else lookW r y
noncomputable def boolsOf:List AV→Option (List Bool)
 | []=>some []
 | .bool b :: r=>(boolsOf r).map (b :: ·)
 | _ :: _=>Option.none
noncomputable def instOne (T:Tb) (σ:AH):AV→AV→Option Bool
 | .str zz,.bi .str=>some true
 | .str zz,.bi .list=>some false
 | .obj i,.bi .str=>match σ[i]? with | some (.list zz)=>some false | _=>Option.none
 | .obj i,.bi .list=>match σ[i]? with | some (.list zz)=>some true | _=>Option.none
 | .obj i,.val C=>if T.inst C=true then (match σ[i]? with | some (.inst D zz)=>if T.inst D=true then some (decide (D=C)) else Option.none | _=>Option.none) else Option.none
 | zz,zy=>Option.none
noncomputable def instAny (T:Tb) (σ:AH) (v:AV):List AV→Option Bool
 | []=>some false
 | c :: r=>match instOne T σ v c with
  | some true=>some true
  | some false=>instAny T σ v r
  | Option.none=>Option.none
noncomputable def instA (T:Tb) (v c:AV):PM AV:=λ σ=>match (match c with | .tup []=>Option.none | .tup (c :: l)=>instAny T σ v (c :: l) | c=>instOne T σ v c) with
 | some b=>some (.ok (.bool b),σ)
 | Option.none=>Option.none
noncomputable def callB (T:Tb):BI→List AV→PM AV
 | .len,[.obj i]=>do let l ← lsO i;pure (.int l.length)
 | .len,[.str s]=>pure (.int s.length)
 | .len,[.fl l]=>pure (.int l.length)
 | .max,[.int a,.int b]=>pure (.int (if a < b then b else a))
 | .int,[.int a]=>pure (.int a)
 | .int,[.bool b]=>pure (.int (if b then 1 else 0))
 | .int,[.str s]=>ofOpt ((lookW intWords s).map .int)
 | .isinstance,[v,c]=>instA T v c
 | .all,[.obj i]=>do
  let l ← lsO i
  let bs ← ofOpt (boolsOf l)
  pure (.bool (bs.all id))
 | .chr,[.int a]=>if a=5∨a=97 then pure (.str [a.toNat]) else fail
 | .tuple,[.tup l]=>pure (.tup l)
 | .list,[.obj i]=>do let l ← lsO i;newO (.list l)
 | .range,[.int b]=>if smallI b=true then pure (.rng 0 b) else fail
 | .range,[.int a,.int b]=>if smallI a=true∧smallI b=true then pure (.rng a b) else fail
 | zz,zy=>fail
inductive Mt where
 | append | pop | find | isdigit | join
 | own (f:Nat)
noncomputable def nm (s:String):Str:=Str.ofString s
noncomputable def methA (T:Tb):AV→Str→PM Mt
 | .obj i,x=>do match ← getO i with
  | .list zz=>if x=nm "append" then pure .append else if x=nm "pop" then pure .pop else fail
  | .inst C fs=>if (kvGet fs x).isNone=true then ofOpt ((T.meth C x).map .own) else fail
  | _=>fail
 | .str zz,x=>if x=nm "find" then pure .find else if x=nm "isdigit" then pure .isdigit else if x=nm "join" then pure .join else fail
 | zz,zy=>fail
noncomputable def strsOf:List AV→Option (List (List Nat))
 | []=>some []
 | .str s :: r=>(strsOf r).map (s :: ·)
 | _ :: _=>Option.none
noncomputable def callM (X:Cx):Mt→AV→List AV→PM AV
 | .append,.obj i,[v]=>do
  let l ← lsO i
  if l.length < maxLen then do
   setO i (.list (l++[v]))
   pure .none
  else fail
 | .pop,.obj i,[]=>do
  let l ← lsO i
  match l.getLast? with
  | some v=>do
   setO i (.list l.dropLast)
   pure v
  | Option.none=>fail
 | .find,.str s,[.str n]=>if s=[10]∧n=[10] then pure (.int 0) else if s=[32,13,10,32]∧n=[10] then pure (.int 2) else fail
 | .isdigit,.str s,[]=>ofOpt ((lookB digWords s).map .bool)
 | .join,.str s,[.obj i]=>do
  let l ← lsO i
  let ts ← ofOpt (strsOf l)
  if s=[]∧ts.flatten.length + ts.length≤maxLen then pure (.str ts.flatten) else fail
 | .own f,o,vs=>X.call f (o :: vs)
 | zz,zy,zx=>fail
noncomputable def callA (X:Cx):AV→List AV→PM AV
 | .val f,vs=>X.call f vs
 | .bi b,vs=>callB X.T b vs
 | zz,zy=>fail
noncomputable def constA:Const→PM AV
 | .none=>pure .none
 | .bool b=>pure (.bool b)
 | .int i=>pure (.int i)
 | .str s=>if s.cps.size≤maxLen then pure (.str s.cps.toList) else fail
 | _=>fail
noncomputable abbrev Lc:=List (Str×AV)
noncomputable def scOk (sc:Scope):Bool:=decide (sc.kind = .function) && !sc.isGenerator && !sc.isCoroutine && sc.names.all (λ y=>decide (y.1≠nm "__debug__") && decide (y.1≠nm "__classdict__"))
noncomputable def fnOk (ps:List Str) (sc:Scope):Bool:=scOk sc && sc.names.all (λ y=>decide (y.2≠.free)) && ps.all (λ x=>decide (sc.names.lookup x=some .local) || decide (sc.names.lookup x=some .cell)) && decide ps.Nodup && decide ((sc.names.map (·.1)).Nodup)
noncomputable def compOk (x:Str) (sc:Scope):Bool:=scOk sc && sc.names.all (λ y=>decide (y.2≠.cell) && (decide (y.2≠.local) || decide (y.1=x) || decide (y.1=nm ".0"))) && decide (sc.names.lookup x=some .local) && decide ((sc.names.map (·.1)).Nodup)
noncomputable def nameA (T:Tb) (sc:Scope) (lc:Lc) (x:Str):PM AV:=match sc.names.lookup x with
 | some .local=>ofOpt (kvGet lc x)
 | some .cell=>ofOpt (kvGet lc x)
 | some .free=>ofOpt (kvGet lc x)
 | some .globalImplicit=>ofOpt (T.glob x)
 | _=>fail
noncomputable def seqA:List (PM AV)→PM (List AV)
 | []=>pure []
 | m :: r=>do
  let v ← m
  let vs ← seqA r
  pure (v :: vs)
noncomputable def boolA (op:BoolOp):List (PM AV)→PM AV
 | []=>fail
 | m :: r=>match r with
  | []=>m
  | _=>do
   let v ← m
   let b ← truthA v
   match op,b with
   | .And,false=>pure v
   | .Or,true=>pure v
   | zz,zy=>boolA op r
noncomputable def boolT (op:BoolOp):List (PM Bool)→PM Bool
 | []=>pure (op == .And)
 | m :: r=>do
  let b ← m
  match op,b with
  | .And,false=>pure false
  | .Or,true=>pure true
  | zz,zy=>boolT op r
noncomputable def chainA (a:AV):List CmpOp→List (PM AV)→PM Bool
 | [],zz=>fail
 | _ :: _,[]=>fail
 | op :: ops,m :: ms=>match ops with
  | []=>match ms with
   | []=>do
    let b ← m
    cmpA op a b
   | _=>fail
  | _=>do
   let b ← m
   let c ← cmpA op a b
   match c with
   | true=>chainA b ops ms
   | false=>pure false
noncomputable def keysOf:List (Option Expr)→Option (List Str)
 | []=>some []
 | some (.Constant (.str s) _ _) :: r=>(keysOf r).map (s :: ·)
 | _=>Option.none
noncomputable def baseOk:Expr→Bool
 | .Call (.Name zz zy) [] [] zx=>false
 | _=>true
noncomputable def plainArgs (es:List Expr):Bool:=es.all λ e=>match e with
 | .Starred zz zy=>false
 | _=>true
inductive Src where
 | items (l:List AV) | lst (i:Nat)
noncomputable def rangeA (a b:Int):List AV:=(List.range (b - a).toNat).map λ (k:Nat)=>.int (a + k)
noncomputable def srcOf:AV→PM Src
 | .obj i=>do let _ ← lsO i;pure (.lst i)
 | .str s=>pure (.items (s.map λ c=>.str [c]))
 | .rng a b=>if b - a≤maxLen then pure (.items (rangeA a b)) else fail
 | _=>fail
noncomputable def nextA (σ:AH):Src→Nat→Option (Option AV)
 | .items l,j=>some l[j]?
 | .lst i,j=>match σ[i]? with
  | some (.list l)=>some l[j]?
  | _=>Option.none
noncomputable def goN (body:AV→PM (List AV)) (src:Src):Nat→Nat→PM (List AV)
 | 0,zz=>fail
 | n + 1,j=>λ σ=>match nextA σ src j with
  | Option.none=>Option.none
  | some Option.none=>some (.ok [],σ)
  | some (some v)=>if j < maxLen then (do
   let x ← body v
   let y ← goN body src n (j + 1)
   pure (x++y):PM (List AV)) σ else Option.none
noncomputable def freesOk (sc sc':Scope):Bool:=sc'.names.all λ y=>decide (y.2≠.free) || decide (sc.names.lookup y.1=some .cell) || decide (sc.names.lookup y.1=some .free)
noncomputable def dictOk (ks:List (Option Expr)) (es:List Expr):Bool:=decide (ks.length=es.length) && decide (0 < ks.length) && decide (ks.length≤15) && (match keysOf ks with
 | some xs=>decide xs.Nodup
 | Option.none=>false)
noncomputable def notSet:Expr→Bool
 | .Set zz zy zx=>false
 | _=>true
noncomputable def attrOf:Expr→Option (Expr×Str×Pos)
 | .Attribute o x ap=>some (o,x,ap)
 | _=>Option.none
noncomputable def replArgs:List Expr→Option (Str×Str)
 | [.Constant (.str a) zz zy,.Constant (.str b) zx zw]=>some (a,b)
 | _=>Option.none
noncomputable def replA:AV→PM AV
 | .str s=>if s∈bareWords then pure (.str (s.filter (·≠45))) else fail
 | _=>fail
mutual
noncomputable def evE (X:Cx):Nat→Scope→Lc→Expr→PM AV
 | 0,zz,zy,zx=>fail
 | n + 1,sc,lc,e=>match e with
  | .Constant c zz zy=>constA c
  | .Name x zz=>nameA X.T sc lc x
  | .BoolOp op vs zz=>boolA op (vs.map λ v=>evE X n sc lc v)
  | .BinOp l op r zz=>do
   let a ← evE X n sc lc l
   let b ← evE X n sc lc r
   binA op a b
  | .UnaryOp .Not x zz=>do
   let v ← evE X n sc lc x
   let b ← truthA v
   pure (.bool !b)
  | .UnaryOp .USub x zz=>do
   let v ← evE X n sc lc x
   match v with
   | .int a=>pure (.int (-a))
   | _=>fail
  | .IfExp t a b zz=>do
   let c ← evT X n sc lc t
   match c with
   | true=>evE X n sc lc a
   | false=>evE X n sc lc b
  | .List es zz=>if plainArgs es=true then do
   let vs ← seqA (es.map λ v=>evE X n sc lc v)
   newL vs
   else fail
  | .Tuple es zz zy=>if plainArgs es=true then do
   let vs ← seqA (es.map λ v=>evE X n sc lc v)
   if vs.length≤maxLen then pure (.tup vs) else fail
   else fail
  | .Dict ks es zz=>if dictOk ks es=true then do
   let vs ← seqA (es.map λ v=>evE X n sc lc v)
   match keysOf ks with
   | some xs=>newO (.dict (xs.zip vs))
   | Option.none=>fail
   else fail
  | .ListComp elt [⟨.Name x zz,iter,ifs,0⟩] sc' zy=>if compOk x sc'=true∧(kvGet lc (nm ".0")).isNone=true∧notSet iter=true∧freesOk sc sc'=true then do
   let it ← evE X n sc lc iter
   let src ← srcOf it
   let vs ← goN (λ v=>do
    let ok ← boolT .And (ifs.map λ t=>evT X n sc' (kvSet lc x v) t)
    match ok with
    | true=>do
     let y ← evE X n sc' (kvSet lc x v) elt
     pure [y]
    | false=>pure []) src X.fuel 0
   newL vs
   else fail
  | .Compare l ops rs zz=>if rs.all notSet=true then do
   let a ← evE X n sc lc l
   let b ← chainA a ops (rs.map λ v=>evE X n sc lc v)
   pure (.bool b)
   else fail
  | .Call f args [] p=>match attrOf f with
   | some (o,x,ap)=>(match replArgs args with
    | some (a,b)=>if x=nm "replace"∧a=nm "-"∧b=nm ""∧ap.endLine=p.line∧baseOk o=true then do
     let ov ← evE X n sc lc o
     replA ov
     else fail
    | Option.none=>if plainArgs args=true∧args.length < 20∧ap.endLine=p.line∧baseOk o=true then do
     let ov ← evE X n sc lc o
     let m ← methA X.T ov x
     let vs ← seqA (args.map λ v=>evE X n sc lc v)
     callM X m ov vs
     else fail)
   | Option.none=>if plainArgs args=true∧args.length < 20 then do
    let fv ← evE X n sc lc f
    let vs ← seqA (args.map λ v=>evE X n sc lc v)
    callA X fv vs
    else fail
  | .Attribute o x zz=>if baseOk o=true then do
   let ov ← evE X n sc lc o
   attrA X.T ov x
   else fail
  | .Subscript o (.Slice lo hi Option.none zz) zy=>do
   let ov ← evE X n sc lc o
   let l ← (match lo with | some e=>evE X n sc lc e | Option.none=>pure .none)
   let h ← (match hi with | some e=>evE X n sc lc e | Option.none=>pure .none)
   sliceA ov l h
  | .Subscript o i zz=>do
   let ov ← evE X n sc lc o
   let iv ← evE X n sc lc i
   subA ov iv
  | _=>fail
noncomputable def evT (X:Cx):Nat→Scope→Lc→Expr→PM Bool
 | 0,zz,zy,zx=>fail
 | n + 1,sc,lc,e=>match e with
  | .UnaryOp .Not x zz=>do
   let b ← evT X n sc lc x
   pure !b
  | .BoolOp op vs zz=>boolT op (vs.map λ v=>evT X n sc lc v)
  | .Compare l ops rs zz=>if rs.all notSet=true then do
   let a ← evE X n sc lc l
   chainA a ops (rs.map λ v=>evE X n sc lc v)
   else fail
  | .IfExp zz zy zx zw=>fail
  | e=>do
   let v ← evE X n sc lc e
   truthA v
end
noncomputable def loopN (test:Lc→PM Bool) (body:Lc→(Lc→PM AV)→PM AV) (k:Lc→PM AV):Nat→Lc→PM AV
 | 0,zz=>fail
 | m + 1,lc=>do
  let b ← test lc
  match b with
  | true=>body lc λ lc'=>loopN test body k m lc'
  | false=>k lc
noncomputable def forN (body:AV→Lc→(Lc→PM AV)→PM AV) (k:Lc→PM AV) (src:Src):Nat→Nat→Lc→PM AV
 | 0,zz,zy=>fail
 | n + 1,j,lc=>λ σ=>match nextA σ src j with
  | Option.none=>Option.none
  | some Option.none=>k lc σ
  | some (some v)=>body v lc (λ lc'=>forN body k src n (j + 1) lc') σ
noncomputable def assignOne (X:Cx) (n:Nat) (sc:Scope) (lc:Lc) (v:AV):Expr→PM Lc
 | .Name x zz=>match sc.names.lookup x with
  | some .local=>pure (kvSet lc x v)
  | some .cell=>pure (kvSet lc x v)
  | _=>fail
 | .Attribute o x zz=>do
  let ov ← evE X n sc lc o
  setAttrA X.T ov x v
  pure lc
 | .Subscript o i zz=>do
  let ov ← evE X n sc lc o
  let iv ← evE X n sc lc i
  setItemA ov iv v
  pure lc
 | _=>fail
noncomputable def assignA (X:Cx) (n:Nat) (sc:Scope) (lc:Lc) (v:AV):Expr→PM Lc
 | .Tuple [t1,t2] zz zy=>match v with
  | .tup [v1,v2]=>do
   let lc1 ← assignOne X n sc lc v1 t1
   assignOne X n sc lc1 v2 t2
  | _=>fail
 | t=>assignOne X n sc lc v t
noncomputable def onPair {α:Type} (v:AV) (k:AV→AV→PM α):PM α:=match v with
 | .tup [v1,v2]=>k v1 v2
 | _=>fail
noncomputable def assignOneK {α:Type} (X:Cx) (n:Nat) (sc:Scope) (lc:Lc) (v:AV) (t:Expr) (k:Lc→PM α):PM α:=match t with
 | .Name x zz=>match sc.names.lookup x with
  | some .local=>k (kvSet lc x v)
  | some .cell=>k (kvSet lc x v)
  | _=>fail
 | .Attribute o x zz=>do
  let ov ← evE X n sc lc o
  let _ ← setAttrA X.T ov x v
  k lc
 | .Subscript o i zz=>do
  let ov ← evE X n sc lc o
  let iv ← evE X n sc lc i
  let _ ← setItemA ov iv v
  k lc
 | _=>fail
noncomputable def assignK {α:Type} (X:Cx) (n:Nat) (sc:Scope) (lc:Lc) (v:AV) (t:Expr) (k:Lc→PM α):PM α:=match t with
 | .Tuple [t1,t2] zz zy=>onPair v λ v1 v2=>assignOneK X n sc lc v1 t1 λ lc1=>assignOneK X n sc lc1 v2 t2 k
 | t=>assignOneK X n sc lc v t k
noncomputable def assignOk (t v:Expr):Bool:=match t with
 | .Tuple ts zz zy=>plainArgs ts && (match v with
  | .Tuple vs zz zy=>!(vs.all (constantsAlone 8))
  | _=>true)
 | _=>true
noncomputable def notAttr:Expr→Bool
 | .Attribute zz zy zx=>false
 | _=>true
noncomputable def notComp:Expr→Bool
 | .ListComp zz zy zx zw=>false
 | .SetComp zz zy zx zw=>false
 | .DictComp zz zy zx zw zv=>false
 | _=>true
noncomputable def tryA (m:PM AV) (k:PM AV):PM AV:=λ σ=>match m σ with
 | Option.none=>Option.none
 | some (.ok zz,σ')=>k σ'
 | some (.error e,σ')=>some (.ok e,σ')
noncomputable def raiseA (T:Tb):AV→List AV→PM AV
 | .val C,[.str zz,p]=>if C=T.exc then throw p else fail
 | zz,zy=>fail
mutual
noncomputable def exS (X:Cx):Nat→Scope→Stmt→Lc→(Lc→PM AV)→PM AV
 | 0,zz,zy,zx,zw=>fail
 | n + 1,sc,st,lc,k=>match st with
  | .Expr v zz=>if notComp v=true then do
   let _ ← evE X n sc lc v
   k lc
   else fail
  | .Pass zz=>k lc
  | .Return (some e) zz=>evE X n sc lc e
  | .Return Option.none zz=>pure .none
  | .Assign [t] v zz=>if assignOk t v=true then do
   let x ← evE X n sc lc v
   assignK X n sc lc x t k
   else fail
  | .If t b o zz=>do
   let c ← evT X n sc lc t
   match c with
   | true=>exSs X n sc b lc k
   | false=>exSs X n sc o lc k
  | .While t b [] zz=>loopN (λ lc=>evT X n sc lc t) (λ lc kk=>exSs X n sc b lc kk) k X.fuel lc
  | .For (.Name x zz) it b [] zy=>if notSet it=true∧sc.names.lookup x=some .local then do
   let v ← evE X n sc lc it
   let src ← srcOf v
   forN (λ v lc kk=>exSs X n sc b (kvSet lc x v) kk) k src X.fuel 0 lc
   else fail
  | .Raise (some (.Call c args [] zz)) Option.none zy=>if plainArgs args=true∧notAttr c=true then do
   let cv ← evE X n sc lc c
   let vs ← seqA (args.map λ v=>evE X n sc lc v)
   raiseA X.T cv vs
   else fail
  | .Try [.Expr e zz] [.ExceptHandler (some (.Name c zy)) (some x) [.Return (some (.Attribute (.Name y zx) f zw)) zv] zu] [] [] zt=>
   if (x=y∧f=nm "place"∧sc.names.lookup x=some .local∧sc.names.lookup c=some .globalImplicit∧notComp e=true) then (match X.T.glob c with
      | some (.val C)=>if C=X.T.exc then tryA (evE X n sc lc e) (k lc) else fail
      | _=>fail)
   else fail
  | _=>fail
noncomputable def exSs (X:Cx):Nat→Scope→List Stmt→Lc→(Lc→PM AV)→PM AV
 | 0,zz,zy,zx,zw=>fail
 | n + 1,sc,b,lc,k=>match b with
  | []=>k lc
  | s :: r=>exS X n sc s lc λ lc'=>exSs X n sc r lc' k
end
noncomputable def callF (T:Tb) (fuel:Nat):Nat→Nat→List AV→PM AV
 | 0,zz,zy=>fail
 | d + 1,a,args=>match T.fn a with
  | some (ps,body,sc)=>if ps.length=args.length∧fnOk ps sc=true then exSs ⟨T,callF T fuel d,fuel⟩ 60 sc body (ps.zip args) (λ zz=>pure .none) else fail
  | Option.none=>match T.ini a with
   | some init=>do
    let o ← newO (.inst a [])
    let r ← callF T fuel d init (o :: args)
    match r with
    | .none=>pure o
    | _=>fail
   | Option.none=>fail
theorem PM.pure_bind {α β:Type} (a:α) (f:α→PM β):((pure a:PM α)>>=f)=f a:=rfl
theorem PM.bind_assoc {α β γ:Type} (m:PM α) (f:α→PM β) (g:β→PM γ):((m>>=f)>>=g)=(m>>=λ a=>f a>>=g):=by
 funext σ
 show PM.andThen (PM.andThen m f) g σ=PM.andThen m (λ a=>PM.andThen (f a) g) σ
 unfold PM.andThen
 cases m σ with
 | none=>rfl
 | some p=>obtain⟨r,σ'⟩:=p;cases r<;>rfl
theorem PM.bind_pure {α:Type} (m:PM α):(m>>=λ a=>pure a)=m:=by
 funext σ
 show PM.andThen m (λ a=>pure a) σ=m σ
 unfold PM.andThen
 cases m σ with
 | none=>rfl
 | some p=>obtain⟨r,σ'⟩:=p;cases r<;>rfl
theorem assignOneK_eq {α:Type} (X:Cx) (n:Nat) (sc:Scope) (lc:Lc) (v:AV) (t:Expr) (k:Lc→PM α):(assignOne X n sc lc v t>>=k)=assignOneK X n sc lc v t k:=by
 cases t with
 | Attribute o x p=>
  show ((evE X n sc lc o>>=λ ov=>(setAttrA X.T ov x v>>=λ zz=>pure lc))>>=k)=(evE X n sc lc o>>=λ ov=>(setAttrA X.T ov x v>>=λ zz=>k lc))
  simp only [PM.bind_assoc,PM.pure_bind]
 | Subscript o i p=>
  show ((evE X n sc lc o>>=λ ov=>evE X n sc lc i>>=λ iv=>(setItemA ov iv v>>=λ zz=>pure lc))>>=k)=(evE X n sc lc o>>=λ ov=>evE X n sc lc i>>=λ iv=>(setItemA ov iv v>>=λ zz=>k lc))
  simp only [PM.bind_assoc,PM.pure_bind]
 | Name x p=>
  unfold assignOne assignOneK
  dsimp only
  cases sc.names.lookup x with
  | none=>rfl
  | some q=>cases q<;>rfl
 | _=>rfl
theorem assignK_eq {α:Type} (X:Cx) (n:Nat) (sc:Scope) (lc:Lc) (v:AV) (t:Expr) (k:Lc→PM α):(assignA X n sc lc v t>>=k)=assignK X n sc lc v t k:=by
 have gen:=assignOneK_eq X n sc lc v t k
 cases t with
 | Tuple ts zz zy=>
  clear gen
  cases ts with
  | nil=>rfl
  | cons t1 ts=>
   cases ts with
   | nil=>rfl
   | cons t2 ts=>
    cases ts with
    | cons zz zy=>rfl
    | nil=>
     cases v with
     | tup vs=>
      cases vs with
      | nil=>rfl
      | cons v1 vs=>
       cases vs with
       | nil=>rfl
       | cons v2 vs=>
        cases vs with
        | cons zz zy=>rfl
        | nil=>
         show ((assignOne X n sc lc v1 t1>>=λ lc1=>assignOne X n sc lc1 v2 t2)>>=k)=assignOneK X n sc lc v1 t1 λ lc1=>assignOneK X n sc lc1 v2 t2 k
         refine rwg (PM.bind_assoc ..) ?_
         refine rwg (assignOneK_eq ..) ?_
         exact congrArg _ (funext λ zz=>assignOneK_eq ..)
     | _=>rfl
 | _=>exact gen
end
section
open PySem PySem.W PySem.Calls PyProof.Rows
noncomputable def BI.toV:BI→Value
 | .len=>.builtin "len" | .max=>.builtin "max" | .int=>.type "int" | .isinstance=>.builtin "isinstance" | .all=>.builtin "all"
 | .chr=>.builtin "chr" | .tuple=>.type "tuple" | .list=>.type "list" | .str=>.type "str" | .range=>.type "range"
structure Gd where
 prog:Program
 w:World
 K:Frag
 base:Heap
 T:Tb
 p:Program
 loose:List Str
 mg:Str→Option Value
 mb:Str→Option Value
 hK:K.In base
 tr:TopRead p loose mg mb base
noncomputable abbrev Img:=List (Addr×Addr)
noncomputable def Own (ι:Img) (b:Addr):Prop:=∃ p∈ι,b=p.1∨b=p.2
mutual
noncomputable def RepV (G:Gd) (ι:Img) (h:Heap):AV→Value→Prop
 | .none,v=>v = .none
 | .bool b,v=>v = .bool b
 | .int i,v=>∃ t,v = .int i t
 | .str s,v=>s.length≤maxLen∧∃ t,v = .str ⟨s.toArray⟩ t
 | .tup l,v=>∃ a vs,v = .ref a∧IsTup h a (List.toArray vs)∧RepVs G ι h l vs∧l.length≤maxLen
 | .obj i,v=>∃ p,ι[i]? = some p∧v = .ref p.1
 | .val a,v=>v = .ref a∧(G.K.lookup a).isSome=true
 | .bi b,v=>v=b.toV
 | .fl ns,v=>∃ a vs,v = .ref a∧G.base.IsList a (List.toArray vs)∧IntsAre vs ns∧ns.length≤100
 | .rng x y,v=>∃ a t u c,v = .ref a∧IsRange h a x y 1 t u c∧smallI x=true∧smallI y=true
noncomputable def RepVs (G:Gd) (ι:Img) (h:Heap):List AV→List Value→Prop
 | [],[]=>True
 | a :: l,v :: vs=>RepV G ι h a v∧RepVs G ι h l vs
 | [],_ :: _=>False
 | _ :: _,[]=>False
end
noncomputable def RepKv (G:Gd) (ι:Img) (h:Heap):List (Str×AV)→List DictEntry→Prop
 | [],[]=>True
 | (x,a) :: r,e :: es=>(∃ t,e.key = .str x t)∧e.hash=PyData.keyHash G.w.params x∧RepV G ι h a e.val∧RepKv G ι h r es
 | [],_ :: _=>False
 | _ :: _,[]=>False
noncomputable def RepO (G:Gd) (ι:Img) (h:Heap) (p:Addr×Addr):AO→Prop
 | .list l=>p.2=p.1∧l.length≤maxLen∧∃ vs,h.PlainList p.1 (List.toArray vs)∧RepVs G ι h l vs
 | .inst C fs=>h.get? p.1=some (instObj C p.2)∧fs.length≤100∧∃ es n,h.get? p.2=some (dictOf es n)∧RepKv G ι h fs es
 | .dict fs=>p.2=p.1∧fs.length≤100∧∃ kvs,h.DictOf (strKind G.prog G.w) p.1 kvs∧fs.map (·.1)=kvs.map (·.1)∧RepVs G ι h (fs.map (·.2)) (kvs.map (·.2))
structure Step (W:Addr→Prop) (fr:List Addr) (ι ι':Img) (h h':Heap):Prop where
 ext:∃ more,ι'=ι++more∧∀ p∈more,h.get? p.1=none∧h.get? p.2=none
 keep:∀ b o,h.get? b=some o→¬ Own ι b→b ∉ fr→¬ W b→h'.get? b=some o
 ns:∀ b∈fr,¬ W b→∀ m,h.Ns b m→h'.Ns b m
 alive:∀ b o,h.get? b=some o→∃ o',h'.get? b=some o'
noncomputable def NoW:Addr→Prop:=λ zz=>False
structure Inv (G:Gd) (fr:List Addr) (ι:Img) (σ:AH) (h:Heap):Prop where
 len:ι.length=σ.length
 at_:∀ (i:Nat) (o:AO) (p:Addr×Addr),σ[i]? = some o→ι[i]? = some p→RepO G ι h p o
 apart:∀ (i j:Nat) (p q:Addr×Addr),i≠j→ι[i]? = some p→ι[j]? = some q→p.1≠q.1∧p.1≠q.2∧p.2≠q.2
 new:∀ p∈ι,G.base.get? p.1=none∧G.base.get? p.2=none
 base:∀ b o,G.base.get? b=some o→h.get? b=some o
 size:G.base.objs.size≤h.objs.size
 frames:∀ b∈fr,(∃ m,h.Ns b m)∧¬ Own ι b∧G.base.objs.size≤b
section
variable {G:Gd} {W:Addr→Prop} {fr:List Addr} {ι ι' ι₁ ι₂:Img} {σ σ':AH} {h h' h₁ h₂:Heap}
theorem Step.refl:Step W fr ι ι h h:=⟨⟨[],by simp,by simp⟩,λ zz zz e zz zz zz=>e,λ zz zz zz zz e=>e,λ zz o e=>⟨o,e⟩⟩
theorem Own.app {b:Addr} {more:Img}:Own (ι++more) b↔Own ι b∨Own more b:=by
 unfold Own
 constructor
 ·rintro⟨p,hp,h⟩
  rcases List.mem_append.mp hp with hp | hp
  ·exact .inl ⟨p,hp,h⟩
  ·exact .inr ⟨p,hp,h⟩
 ·rintro (⟨p,hp,h⟩ | ⟨p,hp,h⟩)
  ·exact⟨p,List.mem_append_left _ hp,h⟩
  ·exact⟨p,List.mem_append_right _ hp,h⟩
theorem Step.notOwn (S:Step W fr ι ι' h h') {b:Addr} {o:Obj} (e:h.get? b=some o) (n:¬ Own ι b):¬ Own ι' b:=by
 refine ex12 (S.ext) λ more rr1 hm=>?_
 subst rr1
 refine rwi (Own.app ..) ?_
 rintro (x | ⟨p,hp,hb⟩)
 ·exact n x
 ·have:=hm p hp
  clear n S hp hm more
  rcases hb with rfl | rfl
  ·rw [this.1] at e;cases e
  ·rw [this.2] at e;cases e
theorem Step.trans (S:Step W fr ι ι₁ h h₁) (S':Step W fr ι₁ ι₂ h₁ h₂):Step W fr ι ι₂ h h₂ where
 ext:=by
  refine ex12 (S.ext) λ m1 rr1 h1=>?_
  subst rr1
  refine ex12 (S'.ext) λ m2 rr1 h2=>?_
  clear S'
  subst rr1
  refine⟨m1++m2,by rw [List.append_assoc],λ p hp=>?_⟩
  rcases List.mem_append.mp hp with hp | hp
  ·exact h1 p hp
  ·have z:=h2 p hp
   constructor
   ·cases q:h.get? p.1 with
    | none=>rfl
    | some o=>obtain⟨o',e⟩:=S.alive _ _ q;rw [z.1] at e;cases e
   ·cases q:h.get? p.2 with
    | none=>rfl
    | some o=>obtain⟨o',e⟩:=S.alive _ _ q;rw [z.2] at e;cases e
 keep:=λ b o e n f w=>S'.keep b o (S.keep b o e n f w) (S.notOwn e n) f w
 ns:=λ b hb w m e=>S'.ns b hb w m (S.ns b hb w m e)
 alive:=λ b o e=>let ⟨o',e'⟩:=S.alive b o e;S'.alive b o' e'
theorem Step.img (S:Step W fr ι ι' h h') {i:Nat} {p:Addr×Addr} (e:ι[i]? = some p):ι'[i]? = some p:=by
 refine ex12 (S.ext) λ more rr1 zz=>?_
 clear S zz
 subst rr1
 refine rwg (List.getElem?_append_left (List.getElem?_eq_some_iff.mp e).1 ..) ?_
 exact e
theorem Step.wide {W':Addr→Prop} (S:Step W fr ι ι' h h') (hw:∀ b,W b→W' b):Step W' fr ι ι' h h':=
 ⟨S.ext,λ b o e n f w=>S.keep b o e n f λ x=>w (hw b x),λ b hb w m e=>S.ns b hb (λ x=>w (hw b x)) m e,S.alive⟩
theorem Inv.own (I:Inv G fr ι σ h) {b:Addr} (x:Own ι b):∃ o,h.get? b=some o∧o.cls≠.type "tuple"∧(∀ vs,o.data≠.fields vs)∧(∀ v,o.data≠.cell v):=by
 obtain⟨p,hp,hb⟩:=x
 obtain⟨i,hi⟩:=List.mem_iff_getElem?.mp hp
 have hl:i < σ.length:=by rw [← I.len];exact (List.getElem?_eq_some_iff.mp hi).1
 have R:=I.at_ i σ[i] p (List.getElem?_eq_getElem hl) hi
 cases ho:σ[i] with
 | list l=>
  rw [ho] at R
  obtain⟨e,_,vs,⟨n,h1⟩,_⟩:=R
  refine⟨{ cls:=.type "list",data:=.seq (List.toArray vs) n },?_,(by show Value.type "list"≠_;decide),λ zz q=>(nomatch q),λ zz q=>(nomatch q)⟩
  rcases hb with rfl | rfl
  ·exact h1
  ·rw [e];exact h1
 | inst C fs=>
  rw [ho] at R
  obtain⟨h1,_,es,n,h2,_⟩:=R
  rcases hb with rfl | rfl
  ·exact⟨instObj C p.2,h1,(λ q=>nomatch q),λ zz q=>(nomatch q),λ zz q=>(nomatch q)⟩
  ·exact⟨dictOf es n,h2,(by show Value.type "dict"≠_;decide),λ zz q=>(nomatch q),λ zz q=>(nomatch q)⟩
 | dict fs=>
  rw [ho] at R
  obtain⟨e,_,kvs,⟨o,es,ep,h2,hc,hd,_⟩,_⟩:=R
  refine⟨o,?_,by rw [hc.1];decide,λ zz q=>(by rw [hd] at q;cases q),λ zz q=>(by rw [hd] at q;cases q)⟩
  rcases hb with rfl | rfl
  ·exact h2
  ·rw [e];exact h2
theorem Inv.frame (I:Inv G fr ι σ h) {b:Addr} (x:b∈fr):∃ o es ep,h.get? b=some o∧o.data = .dict es ep:=by
 obtain⟨⟨m,o,es,ep,ho,hd,_⟩,_⟩:=I.frames b x
 exact⟨o,es,ep,ho,hd⟩
theorem Inv.tupFree (I:Inv G fr ι σ h) {a:Addr} {vs:Array Value} (x:IsTup h a vs):¬ Own ι a∧a ∉ fr:=by
 obtain⟨o,ho,hc,n,hd⟩:=x
 constructor
 ·intro q
  refine ex13 (I.own q) λ o' ho' hc' zz=>?_
  rw [ho] at ho';cases ho';exact hc' hc
 ·intro q
  refine ex32 (I.frame q) λ o' es ep ho' hd'=>?_
  rw [ho] at ho';cases ho';rw [hd] at hd';cases hd'
theorem Inv.fieldsFree (I:Inv G fr ι σ h) {a:Addr} {o:Obj} {vs:Array Value} (ho:h.get? a=some o) (hd:o.data = .fields vs):¬ Own ι a∧a ∉ fr:=by
 constructor
 ·intro q
  refine ex14 (I.own q) λ o' ho' zz hf zz=>?_
  rw [ho] at ho';cases ho';exact hf _ hd
 ·intro q
  refine ex32 (I.frame q) λ o' es ep ho' hd'=>?_
  rw [ho] at ho';cases ho';rw [hd] at hd';cases hd'
theorem Inv.cellFree (I:Inv G fr ι σ h) {a:Addr} {v:Option Value} (x:h.IsCell a v):¬ Own ι a∧a ∉ fr:=by
 refine ex12 (x) λ o ho hd=>?_
 constructor
 ·intro q
  refine ex14 (I.own q) λ o' ho' zz zz hf=>?_
  rw [ho] at ho';cases ho';exact hf _ hd
 ·intro q
  refine ex32 (I.frame q) λ o' es ep ho' hd'=>?_
  rw [ho] at ho';cases ho';rw [hd] at hd';cases hd'
end
noncomputable def Mild (W:Addr→Prop) (h:Heap):Prop:=∀ b o,h.get? b=some o→W b→(o.cls = .type "tuple"→∀ v n,o.data≠.seq v n)∧(o.cls = .type "range"→∀ vs,o.data≠.fields vs)
section
variable {G:Gd} {W:Addr→Prop} {fr:List Addr} {ι ι':Img} {σ:AH} {h h':Heap}
mutual
theorem RepV.move (I:Inv G fr ι σ h) (hi:∀ (i:Nat) p,ι[i]? = some p→ι'[i]? = some p) (hk:∀ b o,h.get? b=some o→¬ Own ι b→b ∉ fr→¬ W b→h'.get? b=some o) (M:Mild W h):∀ (a:AV) (v:Value),RepV G ι h a v→RepV G ι' h' a v
 | .none,zz,x=>x
 | .bool zz,zy,x=>x
 | .int zz,zy,x=>x
 | .str zz,zy,x=>x
 | .tup l,zz,x=>by
  refine ex24 (x) λ a vs rr2 ht hl hz=>?_
  subst rr2
  refine⟨a,vs,rfl,?_,RepVs.move I hi hk M l vs hl,hz⟩
  obtain⟨n1,n2⟩:=I.tupFree ht
  obtain⟨o,ho,hc,n,hd⟩:=ht
  exact⟨o,hk a o ho n1 n2 λ w=>(M a o ho w).1 hc _ _ hd,hc,n,hd⟩
 | .obj i,zz,x=>by
  obtain⟨p,hp,rfl⟩:=x
  exact⟨p,hi _ _ hp,rfl⟩
 | .val zz,zy,x=>x
 | .bi zz,zy,x=>x
 | .fl zz,zy,x=>x
 | .rng zz zy,zx,x=>by
  refine ex43 (x) λ a t u c rr4 hr hs=>?_
  subst rr4
  have hr':h.get? a=some _:=hr
  obtain⟨n1,n2⟩:=I.fieldsFree hr' rfl
  exact⟨a,t,u,c,rfl,hk a _ hr' n1 n2 λ w=>(M a _ hr' w).2 rfl _ rfl,hs⟩
theorem RepVs.move (I:Inv G fr ι σ h) (hi:∀ (i:Nat) p,ι[i]? = some p→ι'[i]? = some p) (hk:∀ b o,h.get? b=some o→¬ Own ι b→b ∉ fr→¬ W b→h'.get? b=some o) (M:Mild W h):∀ (l:List AV) (vs:List Value),RepVs G ι h l vs→RepVs G ι' h' l vs
 | [],[],zz=>trivial
 | a :: l,v :: vs,x=>⟨RepV.move I hi hk M a v x.1,RepVs.move I hi hk M l vs x.2⟩
 | [],_ :: _,x=>x.elim
 | _ :: _,[],x=>x.elim
end
theorem RepKv.move (I:Inv G fr ι σ h) (hi:∀ (i:Nat) p,ι[i]? = some p→ι'[i]? = some p) (hk:∀ b o,h.get? b=some o→¬ Own ι b→b ∉ fr→¬ W b→h'.get? b=some o) (M:Mild W h):∀ (l:List (Str×AV)) (es:List DictEntry),RepKv G ι h l es→RepKv G ι' h' l es
 | [],[],zz=>trivial
 | (_,a) :: l,e :: es,x=>⟨x.1,x.2.1,RepV.move I hi hk M a e.val x.2.2.1,RepKv.move I hi hk M l es x.2.2.2⟩
 | [],_ :: _,x=>x.elim
 | _ :: _,[],x=>x.elim
theorem RepV.step (I:Inv G fr ι σ h) (S:Step W fr ι ι' h h') (M:Mild W h) (a:AV) (v:Value) (x:RepV G ι h a v):RepV G ι' h' a v:=RepV.move I (λ zz zz e=>S.img e) S.keep M a v x
theorem RepVs.step (I:Inv G fr ι σ h) (S:Step W fr ι ι' h h') (M:Mild W h) (a:List AV) (v:List Value) (x:RepVs G ι h a v):RepVs G ι' h' a v:=RepVs.move I (λ zz zz e=>S.img e) S.keep M a v x
theorem RepKv.step (I:Inv G fr ι σ h) (S:Step W fr ι ι' h h') (M:Mild W h) (a:List (Str×AV)) (v:List DictEntry) (x:RepKv G ι h a v):RepKv G ι' h' a v:=RepKv.move I (λ zz zz e=>S.img e) S.keep M a v x
theorem mildNo:Mild NoW h:=λ zz zz zz w=>w.elim
end
theorem RepVs.ind {G:Gd} {ι:Img} {h:Heap} {P:List AV→List Value→Prop} (h0:P [] []) (h1:∀ {a l v vs},RepV G ι h a v→RepVs G ι h l vs→P l vs→P (a :: l) (v :: vs)):∀ {l vs},RepVs G ι h l vs→P l vs:=by
 intro l
 induction l with
 | nil=>intro vs x;cases vs with
  | nil=>exact h0
  | cons=>exact False.elim x
 | cons a l ih=>intro vs x;cases vs with
  | nil=>exact False.elim x
  | cons v vs=>exact h1 x.1 x.2 (ih x.2)
section
variable {G:Gd} {ι:Img} {h:Heap}
theorem RepVs.length {l:List AV} {vs:List Value} (x:RepVs G ι h l vs):vs.length=l.length:=x.ind (P:=λ l vs=>vs.length=l.length) rfl λ zz zz e=>congrArg Nat.succ e
theorem RepVs.app {l m:List AV} {vs ws:List Value} (x:RepVs G ι h l vs) (y:RepVs G ι h m ws):RepVs G ι h (l++m) (vs++ws):=
 x.ind (P:=λ l vs=>RepVs G ι h (l++m) (vs++ws)) y λ a zz e=>⟨a,e⟩
theorem RepVs.get {l:List AV} {vs:List Value} (x:RepVs G ι h l vs):∀ {i:Nat} {a:AV},l[i]? = some a→∃ v,vs[i]? = some v∧RepV G ι h a v:=
 x.ind (P:=λ l vs=>∀ {i:Nat} {a:AV},l[i]? = some a→∃ v,vs[i]? = some v∧RepV G ι h a v) (λ e=>nomatch e) λ {a l v vs} h1 _ ih {i b} e=>by
  cases i with
  | zero=>cases e;exact⟨v,rfl,h1⟩
  | succ i=>exact ih (i:=i) e
theorem RepVs.take {l:List AV} {vs:List Value} (n:Nat) (x:RepVs G ι h l vs):RepVs G ι h (l.take n) (vs.take n):=
 x.ind (P:=λ l vs=>∀ n,RepVs G ι h (l.take n) (vs.take n)) (λ n=>by cases n<;>exact trivial) (λ h1 zz ih n=>by
  cases n with
  | zero=>exact trivial
  | succ n=>exact⟨h1,ih n⟩) n
theorem RepVs.drop {l:List AV} {vs:List Value} (n:Nat) (x:RepVs G ι h l vs):RepVs G ι h (l.drop n) (vs.drop n):=
 x.ind (P:=λ l vs=>∀ n,RepVs G ι h (l.drop n) (vs.drop n)) (λ n=>by cases n<;>exact trivial) (λ h1 h2 ih n=>by
  cases n with
  | zero=>exact⟨h1,h2⟩
  | succ n=>exact ih n) n
theorem RepVs.set {l:List AV} {vs:List Value} (n:Nat) {a:AV} {v:Value} (x:RepVs G ι h l vs) (y:RepV G ι h a v):RepVs G ι h (l.set n a) (vs.set n v):=
 x.ind (P:=λ l vs=>∀ n,RepVs G ι h (l.set n a) (vs.set n v)) (λ n=>trivial) (λ h1 h2 ih n=>by
  cases n with
  | zero=>exact⟨y,h2⟩
  | succ n=>exact⟨h1,ih n⟩) n
end
theorem runs_toks {M:Model} {Γ:Ctx} {p:Pos} {t:Sem Fin} {fs:List Frame} {s:Shared} {e:End} {s':Shared} (h:Runs M Γ p t fs s e s'):s.toks≤s'.toks:=by
 induction h with
 | fresh zz ih=>exact Nat.le_trans (Nat.le_succ _) ih
 | call zz zy i1 i2=>exact Nat.le_trans i1 i2
 | resumeFresh zz zy zx zw i1 i2=>exact Nat.le_trans i1 i2
 | resumeSuspended zz zy zx zw i1 i2=>exact Nat.le_trans i1 i2
 | segRet zz zy i1 i2=>exact Nat.le_trans i1 i2
 | segGen zz zy i1 i2=>exact Nat.le_trans i1 i2
 | segSuspGen zz zy zx zw i1 i2=>exact Nat.le_trans i1 i2
 | _=>first | exact Nat.le_refl _ | assumption
theorem wp_toks {α:Type} (M:Model) (Γ:Ctx):∀ (t:Sem α) (Q:α→Pos→Shared→Prop) (E:Value→Pos→Shared→Prop) (p:Pos) (s:Shared) (n:Nat),n≤s.toks→Sem.wp M Γ t Q E p s →
  Sem.wp M Γ t (λ a p s'=>Q a p s'∧n≤s'.toks) (λ a p s'=>E a p s'∧n≤s'.toks) p s:=by
 intro t
 induction t with
 | pure a=>intro Q E p s n hn h;exact⟨h,hn⟩
 | raise e=>intro Q E p s n hn h;exact⟨h,hn⟩
 | unsupported zz=>intro Q E p s n hn h;exact h
 | finish zz=>intro Q E p s n hn h;exact h
 | rule zz k ih=>intro Q E p s n hn h;exact ih _ Q E p s n hn h
 | «at» zz k ih=>intro Q E p s n hn h;exact ih _ Q E _ s n hn h
 | load a zz k ih=>intro Q E p s n hn h;obtain⟨o,h1,h2⟩:=h;exact⟨o,h1,ih _ Q E p s n hn h2⟩
 | update a zz f k ih=>intro Q E p s n hn h;exact⟨h.1,ih _ Q E p _ n hn h.2⟩
 | loadIfAlive a k ih=>intro Q E p s n hn h;exact ih _ Q E p s n hn h
 | point zz k ih=>intro Q E p s n hn h;exact ih _ Q E p s n hn h
 | register zz zy=>intro Q E p s n hn h;exact h
 | alloc o k ih=>intro Q E p s n hn h;exact ih _ Q E p _ n hn h
 | fresh k ih=>intro Q E p s n hn h;exact ih _ Q E p _ n (Nat.le_succ_of_le hn) h
 | ask k ih=>intro Q E p s n hn h;exact ih _ Q E p s n hn h
 | choose src m k ih=>intro Q E p s n hn h;exact⟨h.1,ih _ Q E p _ n hn h.2⟩
 | os q zz k ih=>intro Q E p s n hn h;exact ih _ Q E p _ n hn h
 | call c hd g l k ih=>
  intro Q E p s n hn h
  refine ex22 (h) λ r s₁ h1 h2=>?_
  exact⟨r,s₁,h1,ih _ Q E p s₁ n (Nat.le_trans hn (runs_toks h1)) h2⟩
 | handled own k ih=>intro Q E p s n hn h;exact ih _ Q E p s n hn h
 | newGen c k ih=>intro Q E p s n hn h;exact ih _ Q E p _ n hn h
 | genState g k ih=>intro Q E p s n hn h;obtain⟨st,h1,h2⟩:=h;exact⟨st,h1,ih _ Q E p s n hn h2⟩
 | resume g r l k ih=>
  intro Q E p s n hn h
  obtain⟨res,s₁,h1,h2⟩:=h
  refine⟨res,s₁,h1,ih _ Q E p s₁ n (Nat.le_trans hn ?_) h2⟩
  unfold Wakes at h1
  clear l ih hn n h2 k E Q α
  split at h1
  ·exact h1.elim
  ·split at h1
   ·obtain⟨e₁,s₂,h3,_,_,rfl⟩:=h1;have q:=runs_toks h3;exact q
   ·rw [h1.2];exact Nat.le_refl _
   ·rw [h1.2];exact Nat.le_refl _
  ·obtain⟨e₁,s₂,h3,_,_,rfl⟩:=h1;have q:=runs_toks h3;exact q
  ·rw [h1.2];exact Nat.le_refl _
  ·rw [h1.2];exact Nat.le_refl _
 | «yield» zz zy zx zw=>intro Q E p s n hn h;exact h
 | stack k ih=>intro Q E p s n hn h;exact ih _ Q E p s n hn h
 | fork zz zy zx=>intro Q E p s n hn h;exact h
 | thread k ih=>intro Q E p s n hn h;exact ih _ Q E p s n hn h
 | await zz zy zx zw zv=>intro Q E p s n hn h;exact h
theorem wpAny_toks {α:Type} {M:Model} {A:Around} {t:Sem α} {Q:α→Shared→Prop} {E:Value→Shared→Prop} {s:Shared} (h:wpAny M A t Q E s):
  wpAny M A t (λ a s'=>Q a s'∧s.toks≤s'.toks) (λ a s'=>E a s'∧s.toks≤s'.toks) s:=
 λ Γ p hΓ=>wp_toks M Γ t _ _ p s s.toks (Nat.le_refl _) (h Γ p hΓ)
section
variable {G:Gd} {fr:List Addr} {ι ι':Img} {σ:AH} {h h':Heap}
noncomputable def Kept (fr:List Addr) (h h':Heap):Prop:=(∀ b o,b ∉ fr→h.get? b=some o→h'.get? b=some o)∧∀ b∈fr,∀ m,h.Ns b m→h'.Ns b m
theorem Kept.of (k:∀ b o,h.get? b=some o→h'.get? b=some o):Kept fr h h':=⟨λ b o zz e=>k b o e,λ zz zz zz e=>e.keeps k⟩
theorem Kept.alive (I:Inv G fr ι σ h) (k:Kept fr h h'):∀ b o,h.get? b=some o→∃ o',h'.get? b=some o':=λ b o e=>by
 by_cases hb:b∈fr
 ·obtain⟨⟨m,hm⟩,_⟩:=I.frames b hb
  refine ex32 (k.2 b hb m hm) λ o' zz zz e' zz=>?_
  exact⟨o',e'⟩
 ·exact⟨o,k.1 b o hb e⟩
theorem Inv.baseFree (I:Inv G fr ι σ h) {b:Addr} {o:Obj} (e:G.base.get? b=some o):b ∉ fr:=λ hb=>by
 exact Nat.lt_irrefl _ (Nat.lt_of_lt_of_le (Heap.lt_size e) (I.frames b hb).2.2)
theorem Inv.ownFree (I:Inv G fr ι σ h) {b:Addr} (x:Own ι b):b ∉ fr:=λ hb=>(I.frames b hb).2.1 x
theorem Kept.step (I:Inv G fr ι σ h) (k:Kept fr h h') {more:Img} (hm:∀ p∈more,h.get? p.1=none∧h.get? p.2=none):Step NoW fr ι (ι++more) h h':=
 ⟨⟨more,rfl,hm⟩,λ b o e zz n zz=>k.1 b o n e,λ b hb zz m e=>k.2 b hb m e,k.alive I⟩
theorem RepO.kept (I:Inv G fr ι σ h) (k:Kept fr h h') {ι':Img} (S:Step NoW fr ι ι' h h') {p:Addr×Addr} (hp:p∈ι) {o:AO} (R:RepO G ι h p o):RepO G ι' h' p o:=by
 have n1:p.1 ∉ fr:=I.ownFree ⟨p,hp,.inl rfl⟩
 have n2:p.2 ∉ fr:=I.ownFree ⟨p,hp,.inr rfl⟩
 cases o with
 | list l=>
  obtain⟨e,hz,vs,hl,hr⟩:=R
  exact⟨e,hz,vs,hl.at λ o e=>k.1 _ o n1 e,RepVs.step I S mildNo _ _ hr⟩
 | inst C fs=>
  obtain⟨h1,hz,es,n,h2,hr⟩:=R
  exact⟨k.1 _ _ n1 h1,hz,es,n,k.1 _ _ n2 h2,RepKv.step I S mildNo _ _ hr⟩
 | dict fs=>
  obtain⟨e,hz,kvs,⟨o,es,ep,h2,hc⟩,hk,hr⟩:=R
  exact⟨e,hz,kvs,⟨o,es,ep,k.1 _ _ n1 h2,hc⟩,hk,RepVs.step I S mildNo _ _ hr⟩
theorem Inv.keeps (I:Inv G fr ι σ h) (hn:fr≠[]) (k:Kept fr h h'):Inv G fr ι σ h'∧Step NoW fr ι ι h h':=by
 have S:Step NoW fr ι ι h h':=by simpa using k.step I (more:=[]) (λ zz hp=>nomatch hp)
 refine⟨⟨I.len,λ i o p e1 e2=>RepO.kept I k S (List.mem_of_getElem? e2) (I.at_ i o p e1 e2),I.apart,I.new,λ b o e=>k.1 b o (I.baseFree e) (I.base b o e),?_,λ b hb=>⟨let ⟨m,e⟩:=(I.frames b hb).1;⟨m,k.2 b hb m e⟩,(I.frames b hb).2⟩⟩,S⟩
 clear S
 cases fr with
 | nil=>exact absurd rfl hn
 | cons L r=>
  obtain⟨⟨m,e⟩,_,hs⟩:=I.frames L (.head _)
  exact Nat.le_of_lt (Nat.lt_of_le_of_lt hs (k.2 L (.head _) m e).lt)
theorem Inv.upd (I:Inv G fr ι σ h) {i:Nat} {p:Addr×Addr} {o':AO} {c:Addr} (hp:ι[i]? = some p) (hc:c=p.1∨c=p.2) (hs:Heap.SameBut c h h') (ha:∃ o,h'.get? c=some o)
  (hr:Step NoW fr ι ι h h'→RepO G ι h' p o'):Inv G fr ι (σ.set i o') h'∧Step NoW fr ι ι h h':=by
 have own:Own ι c:=⟨p,List.mem_of_getElem? hp,hc⟩
 have S:Step NoW fr ι ι h h':=⟨⟨[],by simp,by simp⟩,λ b o e n zz zz=>(hs.2 b λ q=>n (q▸own)).trans e,
  λ b hb zz m e=>e.sameBut hs λ q=>(I.frames b hb).2.1 (q▸own),λ b o e=>by
   by_cases q:b=c
   ·clear hr hs hc hp I e o own o' p i
    subst q;exact ha
   ·exact⟨o,(hs.2 b q).trans e⟩⟩
 have hl:i < σ.length:=by rw [← I.len];exact (List.getElem?_eq_some_iff.mp hp).1
 refine⟨⟨by rw [List.length_set];exact I.len,λ j o q e1 e2=>?_,I.apart,I.new,λ b o e=>?_,by rw [hs.1];exact I.size,
  λ b hb=>⟨let ⟨m,e⟩:=(I.frames b hb).1;⟨m,S.ns b hb (λ w=>w.elim) m e⟩,(I.frames b hb).2⟩⟩,S⟩
 ·by_cases hij:i=j
  ·subst hij
   rw [List.getElem?_set_self hl] at e1
   cases e1
   rw [hp] at e2
   cases e2
   exact hr S
  ·rw [List.getElem?_set_ne hij] at e1
   have R:=I.at_ j o q e1 e2
   have ap:=I.apart i j p q hij hp e2
   have ap':=I.apart j i q p (Ne.symm hij) e2 hp
   have n1:q.1≠c:=by
    clear hr ha hs hp I e2 e1 R hl S own o' o
    rcases hc with rfl | rfl
    ·exact Ne.symm ap.1
    ·exact ap'.2.1
   have n2:q.2≠c:=by
    clear hr ha hs hp I e2 e1 n1 ap' R hl S own o' o
    rcases hc with rfl | rfl
    ·exact Ne.symm ap.2.1
    ·exact Ne.symm ap.2.2
   clear ha hp e2 e1 ap' ap own
   cases o with
   | list l=>
    obtain⟨e,hz,vs,hl,hr⟩:=R
    exact⟨e,hz,vs,hl.at λ o e=>(hs.2 _ n1).trans e,RepVs.step I S mildNo _ _ hr⟩
   | inst C fs=>
    obtain⟨h1,hz,es,n,h2,hr⟩:=R
    exact⟨(hs.2 _ n1).trans h1,hz,es,n,(hs.2 _ n2).trans h2,RepKv.step I S mildNo _ _ hr⟩
   | dict fs=>
    obtain⟨e,hz,kvs,⟨o,es,ep,h2,hc⟩,hk,hr⟩:=R
    exact⟨e,hz,kvs,⟨o,es,ep,(hs.2 _ n1).trans h2,hc⟩,hk,RepVs.step I S mildNo _ _ hr⟩
 ·have e':=I.base b o e
  refine (hs.2 b λ q=>?_).trans e'
  clear ha hs e' S own hr hl o'
  subst q
  have z:=I.new p (List.mem_of_getElem? hp)
  rcases hc with rfl | rfl
  ·rw [z.1] at e;cases e
  ·rw [z.2] at e;cases e
theorem Inv.add (I:Inv G fr ι σ h) (hn:fr≠[]) (k:Kept fr h h') {p:Addr×Addr} {o:AO} (f1:h.get? p.1=none) (f2:h.get? p.2=none)
  (hr:Step NoW fr ι (ι++[p]) h h'→RepO G (ι++[p]) h' p o):Inv G fr (ι++[p]) (σ++[o]) h'∧Step NoW fr ι (ι++[p]) h h':=by
 have I':=(I.keeps hn k).1
 have S:Step NoW fr ι (ι++[p]) h h':=k.step I (by simpa using ⟨f1,f2⟩)
 have off:∀ q∈ι,q.1≠p.1∧q.1≠p.2∧q.2≠p.1∧q.2≠p.2:=λ q hq=>by
  refine ex12 (I.own ⟨q,hq,.inl rfl⟩) λ o1 e1 zz=>?_
  refine ex12 (I.own ⟨q,hq,.inr rfl⟩) λ o2 e2 zz=>?_
  refine⟨?_,?_,?_,?_⟩<;>intro z
  ·rw [z,f1] at e1;cases e1
  ·rw [z,f2] at e1;cases e1
  ·rw [z,f1] at e2;cases e2
  ·rw [z,f2] at e2;cases e2
 refine⟨⟨by simp [I.len],λ j o' q e1 e2=>?_,λ i j q r hij e1 e2=>?_,λ q hq=>?_,I'.base,I'.size,λ b hb=>⟨(I'.frames b hb).1,?_,(I.frames b hb).2.2⟩⟩,S⟩
 ·by_cases hj:j < σ.length
  ·rw [List.getElem?_append_left hj] at e1
   rw [List.getElem?_append_left (by rw [I.len];exact hj)] at e2
   exact RepO.kept I k S (List.mem_of_getElem? e2) (I.at_ j o' q e1 e2)
  ·rw [List.getElem?_append_right (by lia)] at e1
   rw [List.getElem?_append_right (by rw [I.len];lia)] at e2
   have hj':j - σ.length=0:=by
    have:=(List.getElem?_eq_some_iff.mp e1).1
    simp at this;lia
   rw [hj'] at e1
   rw [I.len,hj'] at e2
   simp at e1 e2
   subst e1 e2
   exact hr S
 ·have hp:∀ k (x:Addr×Addr),(ι++[p])[k]? = some x→(k < ι.length∧ι[k]? = some x)∨(k=ι.length∧x=p):=λ k x e=>by
   by_cases hk:k < ι.length
   ·rw [List.getElem?_append_left hk] at e;exact .inl ⟨hk,e⟩
   ·rw [List.getElem?_append_right (by lia)] at e
    have:=(List.getElem?_eq_some_iff.mp e).1
    simp at this
    have hk':k=ι.length:=by lia
    subst hk'
    simp at e
    exact .inr ⟨rfl,e.symm⟩
  rcases hp i q e1 with ⟨h1,f1⟩ | ⟨h1,f1⟩
  ·rcases hp j r e2 with ⟨h2,f2⟩ | ⟨h2,f2⟩
   ·exact I.apart i j q r hij f1 f2
   ·have:=off q (List.mem_of_getElem? f1)
    rw [f2]
    exact⟨this.1,this.2.1,this.2.2.2⟩
  ·rcases hp j r e2 with ⟨h2,f2⟩ | ⟨h2,f2⟩
   ·have:=off r (List.mem_of_getElem? f2)
    rw [f1]
    exact⟨Ne.symm this.1,Ne.symm this.2.2.1,Ne.symm this.2.2.2⟩
   ·lia
 ·clear hr hn k off S I'
  rcases List.mem_append.mp hq with hq | hq
  ·exact I.new q hq
  ·simp at hq
   subst hq
   constructor
   ·cases z:G.base.get? q.1 with
    | none=>rfl
    | some o=>rw [I.base _ _ z] at f1;cases f1
   ·cases z:G.base.get? q.2 with
    | none=>rfl
    | some o=>rw [I.base _ _ z] at f2;cases f2
 ·refine ex32 (I.frame hb) λ o1 es ep e1 zz=>?_
  exact S.notOwn e1 (I.frames b hb).2.1
end
inductive FlyB (h₀ h:Heap) (x:Addr) (vs:Array Value):Prop
 | mk (T:Addr) (oT:Obj) (ts:Array Value) (hv:vs[1]? = some (.ref T)) (nT:h₀.get? T=none) (hTx:T≠x) (hT:h.get? T=some oT) (hTc:oT.cls = .type "traceback") (hTd:oT.data = .fields ts) (hts:3 < ts.size)
inductive FlyT (G:Gd) (ι:Img) (h₀ h:Heap) (x:Addr) (p:AV) (t:Bool):Prop
 | mk (dx:Addr) (vs:Array Value) (es:List DictEntry) (n:Nat) (sl:Array (Option Value)) (u:Value) (hx:h.get? x=some ⟨.ref G.T.exc,some dx,.fields vs,sl⟩) (n0:h₀.get? dx=none) (hdx:h.get? dx=some (dictOf es n)) (hpl:getL (nm "place") es=some (some u)) (ru:RepV G ι h p u) (hz:2≤vs.size)
  (tb:(vs[1]? = some .none∧t=false)∨FlyB h₀ h x vs)
structure Fly (G:Gd) (ι:Img) (h₀ h:Heap) (x:Addr) (p:AV) (t:Bool):Prop where
 new:h₀.get? x=none
 there:FlyT G ι h₀ h x p t
section
variable {G:Gd} {A:Around} {fr:List Addr} {α α' β β':Type}
inductive OkP (G:Gd) (fr:List Addr) (ι:Img) (s:Shared) (R:α→Img→Heap→Prop) (σ':AH) (v:α) (s':Shared):Prop
 | mk (h':Heap) (tk:Nat) (ι':Img) (e:s' = { s with heap:=h',toks:=tk }) (S:Step NoW fr ι ι' s.heap h') (I:Inv G fr ι' σ' h') (r:R v ι' h')
inductive ErP (G:Gd) (fr:List Addr) (ι:Img) (s:Shared) (p:AV) (σ':AH) (e:Value) (s':Shared):Prop
 | mk (h':Heap) (tk:Nat) (ι':Img) (x:Addr) (es:s' = { s with heap:=h',toks:=tk }) (ex:e = .ref x) (S:Step NoW fr ι ι' s.heap h') (I:Inv G fr ι' σ' h') (F:Fly G ι' s.heap h' x p true)
inductive OkS (G:Gd) (fr:List Addr) (ι:Img) (s:Shared) (R:β→α→Img→Heap→Prop) (r:Except AV β) (σ':AH) (v:α) (s':Shared):Prop
 | mk (b:β) (z:r = .ok b) (o:OkP G fr ι s (R b) σ' v s')
inductive ErS (G:Gd) (fr:List Addr) (ι:Img) (s:Shared) (r:Except AV β) (σ':AH) (e:Value) (s':Shared):Prop
 | mk (p:AV) (z:r = .error p) (o:ErP G fr ι s p σ' e s')
theorem OkS.no {ι:Img} {s:Shared} {R:β→α→Img→Heap→Prop} {p:AV} {σ':AH} {v:α} {s':Shared} {P:Prop} (q:OkS G fr ι s R (.error p) σ' v s'):P:=by
 obtain⟨_,z,o⟩:=q;cases z
theorem ErS.er {ι:Img} {s:Shared} {p:AV} {σ':AH} {v:Value} {s':Shared} (q:ErS G fr ι s (.error p:Except AV β) σ' v s'):ErP G fr ι s p σ' v s':=by
 obtain⟨_,z,o⟩:=q;cases z;exact o
theorem ErS.no {ι:Img} {s:Shared} {b:β} {σ':AH} {v:Value} {s':Shared} {P:Prop} (q:ErS G fr ι s (.ok b) σ' v s'):P:=by
 obtain⟨_,z,o⟩:=q;cases z
noncomputable def Snd (G:Gd) (A:Around) (fr:List Addr) (P:Img→Heap→Prop) (t:Sem α) (m:PM β) (R:β→α→Img→Heap→Prop):Prop:=
 ∀ ι σ (s:Shared) r σ',0 < s.toks→Inv G fr ι σ s.heap→P ι s.heap→m σ=some (r,σ') →
  wpAny (model G.prog G.w) A t (OkS G fr ι s R r σ') (ErS G fr ι s r σ') s
noncomputable def Pers (G:Gd) (fr:List Addr) (P:Img→Heap→Prop):Prop:=∀ ι ι' σ h h',Inv G fr ι σ h→Step NoW fr ι ι' h h'→P ι h→P ι' h'
theorem Pers.and {P P':Img→Heap→Prop} (x:Pers G fr P) (y:Pers G fr P'):Pers G fr (λ ι h=>P ι h∧P' ι h):=λ zz zz zz zz zz I S q=>⟨x _ _ _ _ _ I S q.1,y _ _ _ _ _ I S q.2⟩
theorem Pers.rep (a:AV) (v:Value):Pers G fr (λ ι h=>RepV G ι h a v):=λ zz zz zz zz zz I S q=>RepV.step I S mildNo a v q
theorem Pers.reps (a:List AV) (v:List Value):Pers G fr (λ ι h=>RepVs G ι h a v):=λ zz zz zz zz zz I S q=>RepVs.step I S mildNo a v q
theorem Fly.mono {ι:Img} {h₀ h₁ h:Heap} {x:Addr} {p:AV} {t:Bool} (F:Fly G ι h₁ h x p t) (al:∀ b o,h₀.get? b=some o→∃ o',h₁.get? b=some o'):Fly G ι h₀ h x p t:=by
 have key:∀ b,h₁.get? b=none→h₀.get? b=none:=λ b e=>by
  cases q:h₀.get? b with
  | none=>rfl
  | some o=>obtain⟨o',e'⟩:=al b o q;rw [e] at e';cases e'
 refine⟨key _ F.new,?_⟩
 obtain⟨dx,vs,es,n,sl,u,h1,h0,h2,h3,h4,h5,h6⟩:=F.there
 refine⟨dx,vs,es,n,sl,u,h1,key _ h0,h2,h3,h4,h5,h6.imp id ?_⟩
 rintro⟨T,oT,ts,a,b,c,d,e,f,g⟩
 exact⟨T,oT,ts,a,key _ b,c,d,e,f,g⟩
theorem OkP.after {ι ι₁:Img} {s:Shared} {h₁:Heap} {tk:Nat} {R:α→Img→Heap→Prop} {σ':AH} {v:α} {s':Shared} (S:Step NoW fr ι ι₁ s.heap h₁) (x:OkP G fr ι₁ { s with heap:=h₁,toks:=tk } R σ' v s'):OkP G fr ι s R σ' v s':=by
 obtain⟨h',tk',ι',rfl,S',I',r⟩:=x
 exact⟨h',tk',ι',rfl,S.trans S',I',r⟩
theorem ErP.after {ι ι₁:Img} {s:Shared} {h₁:Heap} {tk:Nat} {p:AV} {σ':AH} {e:Value} {s':Shared} (S:Step NoW fr ι ι₁ s.heap h₁) (x:ErP G fr ι₁ { s with heap:=h₁,toks:=tk } p σ' e s'):ErP G fr ι s p σ' e s':=by
 obtain⟨h',tk',ι',x,rfl,rfl,S',I',F⟩:=x
 exact⟨h',tk',ι',x,rfl,rfl,S.trans S',I',F.mono λ b o e=>S.alive b o e⟩
theorem Snd.bind {P:Img→Heap→Prop} {t:Sem α} {m:PM β} {R:β→α→Img→Heap→Prop} {f:α→Sem α'} {g:β→PM β'} {R':β'→α'→Img→Heap→Prop} (hP:Pers G fr P)
  (x:Snd G A fr P t m R) (y:∀ b v,Snd G A fr (λ ι h=>P ι h∧R b v ι h) (f v) (g b) R'):Snd G A fr P (t>>=f) (m>>=g) R':=by
 intro ι σ s r σ' ht I hp e
 refine wpAny_bind ?_
 have e':PM.andThen m g σ=some (r,σ'):=e
 unfold PM.andThen at e'
 cases hm:m σ with
 | none=>rw [hm] at e';cases e'
 | some q=>
  obtain⟨q,σ₁⟩:=q
  rw [hm] at e'
  cases q with
  | error p=>
   cases e'
   refine wpAny_mono (x ι σ s _ _ ht I hp hm) ?_ ?_
   ·rintro v s' ⟨b,q,_⟩;cases q
   ·rintro e s' ⟨p',q,o⟩;cases q;exact⟨_,rfl,o⟩
  | ok b=>
   refine wpAny_mono (wpAny_toks (x ι σ s _ _ ht I hp hm)) ?_ ?_
   ·rintro v s' ⟨⟨b',q,h₁,tk,ι₁,rfl,S,I₁,hr⟩,htk⟩
    cases q
    refine wpAny_mono (y b v ι₁ σ₁ _ r σ' (Nat.lt_of_lt_of_le ht htk) I₁ ⟨hP _ _ _ _ _ I S hp,hr⟩ e') ?_ ?_
    ·rintro v' s'' ⟨b',e,o⟩;exact⟨b',e,o.after S⟩
    ·rintro v' s'' ⟨p,e,o⟩;exact⟨p,e,o.after S⟩
   ·rintro v s' ⟨⟨p,q,_⟩,_⟩;cases q
theorem Snd.pure {P:Img→Heap→Prop} {v:α} {b:β} {R:β→α→Img→Heap→Prop} (h:∀ ι h,P ι h→R b v ι h):Snd G A fr P (Pure.pure v) (Pure.pure b) R:=by
 intro ι σ s r σ' ht I hp e
 cases e
 exact wpAny_pure ⟨b,rfl,s.heap,s.toks,ι,rfl,.refl,I,h _ _ hp⟩
theorem Snd.weaken {P P':Img→Heap→Prop} {t:Sem α} {m:PM β} {R R':β→α→Img→Heap→Prop} (x:Snd G A fr P t m R) (hp:∀ ι h,P' ι h→P ι h) (hr:∀ b v ι h,R b v ι h→R' b v ι h):Snd G A fr P' t m R':=by
 intro ι σ s r σ' ht I hq e
 refine wpAny_mono (x ι σ s r σ' ht I (hp _ _ hq) e) ?_ λ zz zz q=>q
 rintro v s' ⟨b,e,h',tk,ι',e',S,I',hr'⟩
 exact⟨b,e,h',tk,ι',e',S,I',hr _ _ _ _ hr'⟩
theorem Snd.pre {P P':Img→Heap→Prop} {t:Sem α} {m:PM β} {R:β→α→Img→Heap→Prop} (x:Snd G A fr P t m R) (hp:∀ ι h,P' ι h→P ι h):Snd G A fr P' t m R:=x.weaken hp λ zz zz zz zz q=>q
theorem Snd.fail {P:Img→Heap→Prop} {t:Sem α} {R:β→α→Img→Heap→Prop}:Snd G A fr P t (PM.fail:PM β) R:=by
 intro ι σ s r σ' ht I hp e;cases e
theorem Snd.of {P:Img→Heap→Prop} {t t':Sem α} {m:PM β} {R:β→α→Img→Heap→Prop} (x:Snd G A fr P t m R) (h:∀ Q E s,wpAny (model G.prog G.w) A t Q E s→wpAny (model G.prog G.w) A t' Q E s):Snd G A fr P t' m R:=
 λ ι σ s r σ' ht I hp e=>h _ _ _ (x ι σ s r σ' ht I hp e)
theorem Snd.at_ {P:Img→Heap→Prop} {t:Sem α} {m:PM β} {R:β→α→Img→Heap→Prop} {pos:Pos} (x:Snd G A fr P t m R):Snd G A fr P (do standAt pos;t) m R:=
 x.of λ zz zz zz h=>wpAny_bind (wpAny_standAt h)
theorem Snd.holding {P:Img→Heap→Prop} {t:Sem α} {m:PM β} {R:β→α→Img→Heap→Prop} {vs:List Value} (x:Snd G A fr P t m R):Snd G A fr P (PySem.holding vs t) m R:=
 x.of λ zz zz zz h=>wpAny_holding h
theorem wp_release {M:Model} {E:Value→Shared→Prop} {Q:Unit→Shared→Prop} {s:Shared} {vs keep:List Value} (h:Q () s):wpAny M A (release vs keep) Q E s:=by
 unfold release
 suffices H:∀ l:List Value,wpAny M A (release.go keep l) Q E s from H _
 intro l
 induction l with
 | nil=>exact wpAny_pure h
 | cons a r ih=>
  cases r with
  | nil=>exact wpAny_pure h
  | cons b r'=>exact wpAny_bind (wpAny_holding (wpAny_point ih))
theorem wp_operate {M:Model} {E:Value→Shared→Prop} {Q:Value→Shared→Prop} {s:Shared} {ops:List Value} {t:Sem Value} (h:wpAny M A t Q E s):wpAny M A (operate ops t) Q E s:=by
 unfold operate
 exact wpAny_bind (wpAny_holding (wpAny_mono h (λ v s' q=>wpAny_bind (wp_release (wpAny_pure q))) λ zz zz q=>q))
theorem Snd.operate {P:Img→Heap→Prop} {t:Sem Value} {m:PM β} {R:β→Value→Img→Heap→Prop} {vs:List Value} (x:Snd G A fr P t m R):Snd G A fr P (PySem.operate vs t) m R:=
 x.of λ zz zz zz h=>wp_operate h
end
end
section
open PySem PySem.W PySem.Calls PyProof.Rows PySem.SeqAt
noncomputable def RV (G:Gd):AV→Value→Img→Heap→Prop:=λ a v ι h=>RepV G ι h a v
noncomputable def RBv:Bool→Value→Img→Heap→Prop:=λ b v zz zz=>v = .bool b
noncomputable def RB:Bool→Bool→Img→Heap→Prop:=λ b v zz zz=>v=b
noncomputable def valFlat:Value→Value→Bool
 | .int a zz,.int b zy=>a == b
 | .str a zz,.str b zy=>a == b
 | .bool a,.bool b=>a == b
 | zz,zy=>false
noncomputable def seqOf (h:Heap):Value→Array Value
 | .ref a=>match h.get? a with
  | some ⟨zz,zy,.seq xs zx,zw⟩=>xs
  | _=>#[]
 | _=>#[]
noncomputable def valSeq (xs ys:Array Value):Bool:=xs.size == ys.size && (List.range xs.size).all λ j=>valFlat (xs.getD j .none) (ys.getD j .none)
theorem toD (vs:List Value) (j:Nat):(List.toArray vs).getD j .none=vs.getD j .none:=by simp
section
variable {G:Gd} {A:Around} {fr:List Addr} {ι:Img} {σ:AH} {s:Shared} {h:Heap}
theorem str_dec (x y:List Nat):((⟨x.toArray⟩:Str) == ⟨y.toArray⟩)=decide (x=y):=by
 rw [Bool.eq_iff_iff,beq_iff_eq,decide_eq_true_eq]
 exact⟨λ e=>List.toArray_inj (Str.mk.inj e),λ e=>e▸rfl⟩
inductive FlatR (A:Around) (s:Shared) (v w:Value) (r:Bool):Prop
 | mk (e:EqAt A s v w r) (f:valFlat v w=r) (c:RcAt A s v w r) (n:RcNeAt A s v w (!r))
theorem eqFlat_cases {P:AV→AV→Option Bool→Prop} (hf:∀ {a b},P a b none) (hb:∀ a b,P (.bool a) (.bool b) (some (a == b))) (hi:∀ a b,P (.int a) (.int b) (some (a == b)))
  (hs:∀ a b,P (.str a) (.str b) (some (decide (a=b)))):∀ a b,P a b (eqFlat a b):=by
 intro a b
 cases a with
 | bool a=>cases b with
  | bool b=>exact hb a b
  | _=>exact hf
 | int a=>cases b with
  | int b=>exact hi a b
  | _=>exact hf
 | str a=>cases b with
  | str b=>exact hs a b
  | _=>exact hf
 | _=>exact hf
theorem eqFlat_at {a b:AV} {v w:Value} {r:Bool} (ha:RepV G ι h a v) (hb:RepV G ι h b w) (e:eqFlat a b=some r):FlatR A s v w r:=by
 refine eqFlat_cases (P:=λ a b o=>o=some r→RepV G ι h a v→RepV G ι h b w→FlatR A s v w r) (λ e=>no_none e) ?_ ?_ ?_ a b e ha hb
 ·clear hb ha
  rintro a b e rfl rfl;cases e;exact⟨EqAt.bool_bool _ _,rfl,RcAt.bool_bool _ _,RcNeAt.bool_bool _ _⟩
 ·clear hb ha
  rintro a b e ⟨t,rfl⟩ ⟨u,rfl⟩;cases e;exact⟨EqAt.int_int _ _ _ _,rfl,RcAt.int_int _ _ _ _,RcNeAt.int_int _ _ _ _⟩
 ·clear hb ha
  rintro a b e ⟨_,t,rfl⟩ ⟨_,u,rfl⟩;rw [← str_dec] at e;cases e;exact⟨EqAt.str_str _ _ _ _,rfl,RcAt.str_str _ _ _ _,RcNeAt.str_str _ _ _ _⟩
inductive AllR (A:Around) (s:Shared) (vs ws:List Value) (r:Bool):Prop
 | mk (hl:vs.length=ws.length) (he:∀ j (h1:j < (List.toArray vs).size) (h2:j < (List.toArray ws).size),EqAt A s (List.toArray vs)[j] (List.toArray ws)[j] (valFlat (vs.getD j .none) (ws.getD j .none)))
  (hr:((List.range vs.length).all λ j=>valFlat (vs.getD j .none) (ws.getD j .none))=r)
theorem two_some {f:Bool→Bool→Bool} {x y:Option Bool} {r:Bool} {P:Prop} (e:both f x y=some r) (k:∀ p q,x=some p→y=some q→f p q=r→P):P:=by
 cases x with
 | none=>cases e
 | some p=>cases y with
  | none=>cases e
  | some q=>exact k p q rfl rfl (Option.some.inj e)
theorem AllR.cons {v w:Value} {vs ws:List Value} {p q:Bool} (F:FlatR A s v w p) (R:AllR A s vs ws q):AllR A s (v :: vs) (w :: ws) (p && q):=by
 obtain⟨h1,h2,_,_⟩:=F
 obtain⟨i1,i2,i3⟩:=R
 subst h2 i3
 refine⟨congrArg Nat.succ i1,λ j g1 g2=>?_,by rw [List.length_cons,List.range_succ_eq_map,List.all_cons,List.all_map];rfl⟩
 cases j with
 | zero=>exact h1
 | succ j=>exact i2 j (Nat.lt_of_succ_lt_succ g1) (Nat.lt_of_succ_lt_succ g2)
theorem eqAll_at {l m:List AV} {vs ws:List Value} {r:Bool} (x:RepVs G ι h l vs) (y:RepVs G ι h m ws) (e:eqAll l m=some r):AllR A s vs ws r:=by
 refine x.ind (P:=λ l vs=>∀ {m:List AV} {ws:List Value} {r:Bool},RepVs G ι h m ws→eqAll l m=some r→AllR A s vs ws r) ?_ ?_ y e
 ·intro m ws r y e
  cases m with
  | cons=>exact no_none e
  | nil=>cases ws with
   | nil=>cases e;exact⟨rfl,λ j h1=>absurd h1 (Nat.not_lt_zero _),rfl⟩
   | cons=>exact False.elim y
 ·intro a l v vs h1 _ ih m ws r y e
  cases m with
  | nil=>exact no_none e
  | cons b m=>cases ws with
   | nil=>exact False.elim y
   | cons w ws=>exact two_some (f:=and) (x:=eqFlat a b) (y:=eqAll l m) e λ p q e1 e2 e3=>e3▸AllR.cons (eqFlat_at h1 y.1 e1) (ih y.2 e2)
theorem seqOf_list {a:Addr} {xs:Array Value} (x:h.IsList a xs):seqOf h (.ref a)=xs:=by
 obtain⟨⟨c1,d1,dt1,sl1⟩,h1,_,n1,e1⟩:=x
 cases e1
 simp only [seqOf,h1]
inductive LstR (A:Around) (s:Shared) (a b:Addr) (xs ys:List Value) (r:Bool):Prop
 | mk (c:RcAt A s (.ref a) (.ref b) r) (n:RcNeAt A s (.ref a) (.ref b) (!r)) (v:valSeq (List.toArray xs) (List.toArray ys)=r)
theorem eqLists_at {l m:List AV} {vs ws:List Value} {a b:Addr} {r:Bool} (hu:A.units < cLine) (x:RepVs G ι h l vs) (y:RepVs G ι h m ws) (e:eqLists l m=some r) (ha:s.heap.IsList a (List.toArray vs)) (hb:s.heap.IsList b (List.toArray ws)):
  LstR A s a b vs ws r:=by
 unfold eqLists at e
 by_cases hlen:l.length=m.length
 ·rw [if_pos hlen] at e
  obtain⟨i1,i2,i3⟩:=eqAll_at (A:=A.in1) (s:=s) x y e
  subst i3
  refine⟨RcAt.lists (e:=λ j=>valFlat (vs.getD j .none) (ws.getD j .none)) ha hb i1 hu i2,RcNeAt.lists (e:=λ j=>valFlat (vs.getD j .none) (ws.getD j .none)) ha hb i1 hu i2,?_⟩
  show ((vs.length == ws.length) && _)=_
  refine rwg (i1 ..) ?_
  refine rwg (beq_self_eq_true ..) ?_
  refine rwg (Bool.true_and ..) ?_
  refine rwb (i1 ..) ?_
  exact congrArg (List.all (List.range vs.length)) (funext λ j=>congr (congrArg valFlat (toD vs j)) (toD ws j))
 ·rw [if_neg hlen] at e
  cases e
  have hne:vs.length≠ws.length:=by rw [x.length,y.length];exact hlen
  have hsz:((List.toArray vs).size != (List.toArray ws).size)=true:=bne_iff_ne.mpr hne
  exact⟨RcAt.lists_lengths ha hb hsz hu,RcNeAt.lists_lengths ha hb hsz hu,by show ((vs.length == ws.length) && _)=_;rw [beq_false_of_ne hne];rfl⟩
inductive LstAt (G:Gd) (ι:Img) (h:Heap) (a:Addr) (l:List AV):Prop
 | mk (hz:l.length≤maxLen) (vs:List Value) (i1:h.IsList a (List.toArray vs)) (r1:RepVs G ι h l vs)
inductive PlsAt (G:Gd) (ι:Img) (h:Heap) (p:Addr×Addr) (l:List AV):Prop
 | mk (e:p.2=p.1) (hz:l.length≤maxLen) (vs:List Value) (i1:h.PlainList p.1 (List.toArray vs)) (r1:RepVs G ι h l vs)
theorem Inv.plst (I:Inv G fr ι σ h) {i:Nat} {l:List AV} {p:Addr×Addr} (e:σ[i]? = some (.list l)) (hp:ι[i]? = some p):PlsAt G ι h p l:=by
 obtain⟨d,a,vs,b,c⟩:=I.at_ i _ p e hp;exact⟨d,a,vs,b,c⟩
theorem Inv.lst (I:Inv G fr ι σ h) {i:Nat} {l:List AV} {p:Addr×Addr} (e:σ[i]? = some (.list l)) (hp:ι[i]? = some p):LstAt G ι h p.1 l:=by
 obtain⟨_,a,vs,b,c⟩:=I.plst e hp;exact⟨a,vs,b.isList,c⟩
theorem eqObj_of {i j:Nat} {r:Bool} {P:Prop} (e:eqObj σ i j=some r) (k:∀ l m,σ[i]? = some (.list l)→σ[j]? = some (.list m)→i≠j→eqLists l m=some r→P):P:=by
 unfold eqObj at e
 generalize σ[i]? = x at *
 generalize σ[j]? = y at *
 cases x with
 | none=>cases e
 | some x=>cases x with
  | list l=>cases y with
   | none=>cases e
   | some y=>cases y with
    | list m=>
     by_cases h:i=j
     ·have e:(if i=j then none else eqLists l m)=some r:=e
      rw [if_pos h] at e;cases e
     ·have e:(if i=j then none else eqLists l m)=some r:=e
      rw [if_neg h] at e;exact k l m rfl rfl h e
    | _=>cases e
  | _=>cases e
inductive ObjR (A:Around) (s:Shared) (v w:Value) (r:Bool):Prop
 | mk (c:RcAt A s v w r) (n:RcNeAt A s v w (!r)) (e:EqAt A s v w r) (q:valSeq (seqOf s.heap v) (seqOf s.heap w)=r)
theorem eqObj_at (hu:A.units < cLine) (I:Inv G fr ι σ s.heap) {i j:Nat} {v w:Value} {r:Bool} (ha:RepV G ι s.heap (.obj i) v) (hb:RepV G ι s.heap (.obj j) w) (e:eqObj σ i j=some r):ObjR A s v w r:=by
 refine ex12 (ha) λ p hp rr2=>?_
 subst rr2
 obtain⟨q,hq,rfl⟩:=hb
 refine eqObj_of e λ l m h1 h2 hne e=>?_
 obtain⟨_,vs,l1,r1⟩:=I.lst h1 hp
 obtain⟨_,ws,l2,r2⟩:=I.lst h2 hq
 obtain⟨c,n,z⟩:=eqLists_at (A:=A) (s:=s) hu r1 r2 e l1 l2
 exact⟨c,n,EqAt.of_refs (I.apart i j p q hne hp hq).1 c,by rw [seqOf_list l1,seqOf_list l2];exact z⟩
theorem eqA_cases {P:AV→AV→Option Bool→Prop} (h1:∀ i j,P (.obj i) (.obj j) (eqObj σ i j)) (h2:∀ a b,P (.tup a) (.tup b) (eqTup a b)) (h3:∀ {a b},P a b (eqFlat a b)):∀ a b,P a b (eqA σ a b):=by
 intro a b
 cases a with
 | obj a=>cases b with
  | obj b=>exact h1 a b
  | _=>exact h3
 | tup a=>cases b with
  | tup b=>exact h2 a b
  | _=>exact h3
 | _=>exact h3
theorem eqA_at (hu:A.units < cLine) (I:Inv G fr ι σ s.heap) {a b:AV} {v w:Value} {r:Bool} (ha:RepV G ι s.heap a v) (hb:RepV G ι s.heap b w) (e:eqA σ a b=some r):
  RcAt A s v w r∧RcNeAt A s v w (!r):=by
 refine eqA_cases (σ:=σ) (P:=λ a b o=>o=some r→RepV G ι s.heap a v→RepV G ι s.heap b w→RcAt A s v w r∧RcNeAt A s v w (!r)) ?_ ?_ ?_ a b e ha hb
 ·intro i j e ha hb
  obtain⟨c,n,_,_⟩:=eqObj_at (A:=A) (s:=s) hu I ha hb e
  exact⟨c,n⟩
 ·rintro l m e ⟨a,vs,rfl,ta,ra,_⟩ ⟨b,ws,rfl,tb,rb,_⟩
  unfold eqTup at e
  by_cases hlen:l.length=m.length
  ·rw [if_pos hlen] at e
   obtain⟨i1,i2,i3⟩:=eqAll_at (A:=A.in1) (s:=s) ra rb e
   subst i3
   have key:((List.range (min vs.length ws.length)).all (λ j=>valFlat (vs.getD j .none) (ws.getD j .none)) && vs.length == ws.length)=(List.range vs.length).all (λ j=>valFlat (vs.getD j .none) (ws.getD j .none)):=by
    rw [← i1,Nat.min_self,beq_self_eq_true,Bool.and_true]
   rw [← key]
   exact⟨RcAt.tuples (e:=λ j=>valFlat (vs.getD j .none) (ws.getD j .none)) ta tb hu i2,RcNeAt.tuples (e:=λ j=>valFlat (vs.getD j .none) (ws.getD j .none)) ta tb hu i2⟩
  ·rw [if_neg hlen] at e;cases e
 ·intro a b e ha hb
  obtain⟨_,_,c,n⟩:=eqFlat_at (A:=A) (s:=s) ha hb e
  exact⟨c,n⟩
theorem inBy_at {f:AV→Option Bool} {x:Value} {E:Value→Bool} (hf:∀ {b:AV} {y:Value} {r:Bool},RepV G ι h b y→f b=some r→EqAt A s y x r∧E y=r) {l:List AV} {vs:List Value} {r:Bool} (hl:RepVs G ι h l vs) (e:inBy f l=some r):
  (∀ y∈vs,EqAt A s y x (E y))∧vs.any E=r:=by
 refine hl.ind (P:=λ l vs=>∀ {r:Bool},inBy f l=some r→(∀ y∈vs,EqAt A s y x (E y))∧vs.any E=r) ?_ ?_ e
 ·intro r e;cases e;exact⟨λ y hy=>(nomatch hy),rfl⟩
 ·intro b l v vs h1 _ ih r e
  refine two_some (f:=or) (x:=f b) (y:=inBy f l) e λ p q e1 e2 e3=>?_
  obtain⟨g1,g2⟩:=hf h1 e1
  obtain⟨i1,i2⟩:=ih e2
  subst e3 g2 i2
  exact⟨λ y hy=>(List.mem_cons.mp hy).elim (λ q=>q▸g1) (i1 y),rfl⟩
theorem inFlat_at {a:AV} {x:Value} (ha:RepV G ι h a x) {l:List AV} {vs:List Value} {r:Bool} (hl:RepVs G ι h l vs) (e:inFlat a l=some r):
  (∀ y∈vs,EqAt A s y x (valFlat y x))∧vs.any (λ y=>valFlat y x)=r:=
 inBy_at (E:=λ y=>valFlat y x) (λ hb e=>by obtain⟨g1,g2,_,_⟩:=eqFlat_at (A:=A) (s:=s) hb ha e;exact⟨g1,g2⟩) hl e
theorem inLists_at (hu:A.units < cLine) (I:Inv G fr ι σ s.heap) {i:Nat} {x:Value} (ha:RepV G ι s.heap (.obj i) x) {l:List AV} {vs:List Value} {r:Bool} (hl:RepVs G ι s.heap l vs) (e:inLists σ i l=some r):
  (∀ y∈vs,EqAt A s y x (valSeq (seqOf s.heap y) (seqOf s.heap x)))∧vs.any (λ y=>valSeq (seqOf s.heap y) (seqOf s.heap x))=r:=
 inBy_at (E:=λ y=>valSeq (seqOf s.heap y) (seqOf s.heap x)) (λ {b} {y} {r} hb e=>by
  cases b with
  | obj j=>obtain⟨_,_,g1,g2⟩:=eqObj_at (A:=A) (s:=s) hu I hb ha e;exact⟨g1,g2⟩
  | _=>exact no_none e) hl e
end
end
section
open PySem PySem.W PySem.Calls PyProof.Rows PySem.SeqAt
open AutoSeq1 (wpAny_loadPart')
noncomputable def LeAt (A:Around) (s:Shared) (y x:Value) (b:Bool):Prop:=
 ∀ (prog:Program) (w:World) (E:Value→Shared→Prop) (Q:Value→Shared→Prop),Q (.bool b) s→wpAny (model prog w) A (richCompare .LtE y x) Q E s
inductive PairsLe (A:Around) (s:Shared):List (Value×Value)→Bool→Prop
 | nil:PairsLe A s [] true
 | cons {y x:Value} {rest:List (Value×Value)} {e r res:Bool} (q:EqAt A s y x e) (p:LeAt A s y x r) (t:PairsLe A s rest res):PairsLe A s ((y,x) :: rest) (if e then res else r)
inductive LeJ (A:Around) (s:Shared) (R:Bool→Prop) (rest:List (Value×Value)):Option PySem.Fin×Unit→Shared→Prop
 | mk {res:Bool} (t:PairsLe A s rest res) (h:R res):LeJ A s R rest (none,()) s
theorem tuple_lePair (l b:Addr) (items items2:Array Value) (res:Bool) (hs:items.size=items2.size) (n n2:Nat) (dd dd2:Option Addr) (sl sl2:Array (Option Value)):
  Meets (Builtin.«tuple.__le__» ⟨[.ref l,.ref b],[]⟩)
   (λ A R s=>s.heap.get? l=some { cls:=.type "tuple",dict:=dd,data:=.seq items n,slots:=sl }∧s.heap.get? b=some { cls:=.type "tuple",dict:=dd2,data:=.seq items2 n2,slots:=sl2 } ∧
    PairsLe A.in1 s (items.toList.zip items2.toList) res∧R (.ok (.ret (.bool res))) s):=
 .of_wp λ prog w A R s h=>by
  obtain⟨hp,g,d,tk,os⟩:=s;obtain⟨hl,hb,q,h⟩:=h
  have f2:=AutoSeq1.sub_tuple_tuple
  wp_walk using wpAny_loadPart' hl,wpAny_loadPart' hb,wpAny_forIn_list _ (λ rest b s'=>LeJ A.in1 ⟨hp,g,d,tk,os⟩ (λ res=>R (.ok (.ret (.bool res))) ⟨hp,g,d,tk,os⟩) rest b s') _
  case turn=>
   clear hs q f2 h hb hl
   rintro⟨y,x⟩ rest b s' hj
   obtain⟨t,hR⟩:=hj
   cases t with
   | @cons zz zy zx e r res q p t=>
    refine wpAny_bind (q prog w _ _ ?_)
    cases e with
    | true=>wp_walk;exact⟨t,hR⟩
    | false=>refine wpAny_bind (wpAny_rule (wpAny_bind (p prog w _ _ ?_)));wp_walk;exact⟨_,rfl,hR⟩
  case fin=>
   intro b s' hj
   obtain⟨t,hR⟩:=hj
   cases t
   wp_walk
   exact⟨_,rfl,by simpa [Builtin.Tuple.tupleCompareSizes,hs] using hR⟩
  case h=>exact⟨q,h⟩
theorem LeAt.ints {A:Around} {s:Shared} (a:Int) (t:Tok) (b:Int) (u:Tok):LeAt A s (.int a t) (.int b u) (decide (a≤b)):=λ zz zz zz zz h=>le_int h
section
variable {G:Gd} {A:Around} {fr:List Addr}
theorem le_tups {s:Shared} {a b:Addr} {x y z u:Int} {t1 t2 t3 t4:Tok} {Q:Value→Shared→Prop} {E:Value→Shared→Prop} (hu:A.units < cLine) (ha:IsTup s.heap a #[.int x t1,.int y t2]) (hb:IsTup s.heap b #[.int z t3,.int u t4])
  (h:Q (.bool (if x=z then decide (y≤u) else decide (x < z))) s):wpAny (model G.prog G.w) A (compareOp .LtE (.ref a) (.ref b)) Q E s:=by
 obtain⟨⟨cls,dd,data,sl⟩,ho,hc,n,hd⟩:=id ha
 obtain⟨⟨cls2,dd2,data2,sl2⟩,ho2,hc2,n2,hd2⟩:=id hb
 simp only at hc hd hc2 hd2
 subst hc hd hc2 hd2
 have key:(if (x == z) then (if (y == u) then true else decide (y≤u)) else decide (x≤z))=(if x=z then decide (y≤u) else decide (x < z)):=by
  by_cases h1:x=z
  ·clear E h hb ha hu ho2 sl2 dd2 ho sl dd Q t4 t3 t2 t1 b a s n2 n
   subst h1
   simp only [beq_self_eq_true,if_true]
   by_cases h2:y=u
   ·subst h2;simp
   ·simp [h2]
  ·simp only [beq_iff_eq,h1,if_false]
   rw [Bool.eq_iff_iff,decide_eq_true_eq,decide_eq_true_eq];lia
 exact richCompare_meets_room (op:=.LtE) ⟨_,ho,rfl⟩ ⟨_,ho2,rfl⟩ F.slot_tuple_le F.entry_tuple_le (F.args_tuple_le_2 _ _)
  (tuple_lePair a b #[.int x t1,.int y t2] #[.int z t3,.int u t4] _ rfl n n2 dd dd2 sl sl2)
  ⟨ho,ho2,.cons (EqAt.int_int _ _ _ _) (LeAt.ints _ _ _ _) (.cons (EqAt.int_int _ _ _ _) (LeAt.ints _ _ _ _) .nil),(λ q=>nomatch q),by rw [key];exact h⟩ hu
theorem snd_leaf {P:Img→Heap→Prop} {α β:Type} {t:Sem α} {m:PM β} {R:β→α→Img→Heap→Prop}
  (h:∀ ι σ (s:Shared) r σ',0 < s.toks→Inv G fr ι σ s.heap→P ι s.heap→m σ=some (r,σ')→∃ (b:β) (v:Tok→α),r = .ok b∧σ'=σ∧(∀ Q E,(∀ tk v',v'=v tk→Q v' { s with toks:=tk })→wpAny (model G.prog G.w) A t Q E s)∧(∀ tk,R b (v tk) ι s.heap)):Snd G A fr P t m R:=by
 intro ι σ s r σ' ht I hp e
 refine ex24 (h ι σ s r σ' ht I hp e) λ b v rr2 rr3 hw hR=>?_
 clear h e hp ht m P
 subst rr2
 subst rr3
 refine hw _ _ λ tk v' hv=>⟨b,rfl,s.heap,tk,ι,rfl,.refl,I,by rw [hv];exact hR tk⟩
theorem isNone_rep {ι:Img} {h:Heap} {a:AV} {v:Value} (x:RepV G ι h a v):(v == Value.none)=isNone a:=by
 cases a
 ·obtain rfl:=x;rfl
 ·obtain rfl:=x;rfl
 ·obtain⟨t,rfl⟩:=x;rfl
 ·obtain⟨_,t,rfl⟩:=x;rfl
 ·obtain⟨a,vs,rfl,_⟩:=x;rfl
 ·obtain⟨p,_,rfl⟩:=x;rfl
 ·obtain⟨rfl,_⟩:=x;rfl
 ·obtain rfl:=x;cases b<;>rfl
 ·obtain⟨a,vs,rfl,_⟩:=x;rfl
 ·obtain⟨a,t,u,c,rfl,_⟩:=x;rfl
theorem inA_cases {σ:AH} {P:AV→AV→Option Bool→Prop} (hf:∀ {a b},P a b none) (h1:∀ c x,P (.str [c]) (.str x) (some (decide (c∈x)))) (h2:∀ i j l,σ[j]? = some (.list l)→P (.obj i) (.obj j) (inLists σ i l))
  (h3:∀ a j l,σ[j]? = some (.list l)→P a (.obj j) (inFlat a l)) (h4:∀ a l,P (.str a) (.tup l) (inFlat (.str a) l)):∀ a b,P a b (inA σ a b):=by
 intro a b
 have lst:∀ (j:Nat) (f:List AV→Option Bool),(∀ l,σ[j]? = some (.list l)→P a (.obj j) (f l))→P a (.obj j) (match σ[j]? with | some (.list l)=>f l | _=>none):=by
  intro j f q
  cases hj:σ[j]? with
  | none=>exact hf
  | some o=>cases o with
   | list l=>exact q l hj
   | _=>exact hf
 cases a with
 | str x=>
  have e2:∀ j,inA σ (.str x) (.obj j)=(match σ[j]? with | some (.list l)=>inFlat (.str x) l | _=>none):=λ j=>by
   clear h4 h3 h2 h1 hf lst b P
   cases x with
   | nil=>rfl
   | cons c x=>cases x<;>rfl
  cases b with
  | obj j=>rw [e2];exact lst _ _ λ l q=>h3 _ _ _ q
  | str y=>cases x with
   | nil=>exact hf
   | cons c x=>cases x with
    | nil=>exact h1 c y
    | cons zz zy=>exact hf
  | tup l=>cases x with
   | nil=>exact h4 _ _
   | cons c x=>cases x<;>exact h4 _ _
  | _=>cases x with
   | nil=>exact hf
   | cons c x=>cases x<;>exact hf
 | obj i=>cases b with
  | obj j=>exact lst j _ λ l q=>h2 _ _ _ q
  | _=>exact hf
 | int i=>cases b with
  | obj j=>exact lst j _ λ l q=>h3 _ _ _ q
  | _=>exact hf
 | _=>exact hf
theorem leTup_cases {P:List AV→List AV→Option Bool→Prop} (hf:∀ {l m},P l m none) (h:∀ x y z u,P [.int x,.int y] [.int z,.int u] (some (if x=z then decide (y≤u) else decide (x < z)))):∀ l m,P l m (leTup (.tup l) (.tup m)):=by
 intro l m
 cases l with
 | nil=>exact hf
 | cons a l=>cases a with
  | int x=>cases l with
   | nil=>exact hf
   | cons a l=>cases a with
    | int y=>cases l with
     | cons=>exact hf
     | nil=>cases m with
      | nil=>exact hf
      | cons a m=>cases a with
       | int z=>cases m with
        | nil=>exact hf
        | cons a m=>cases a with
         | int u=>cases m with
          | nil=>exact h _ _ _ _
          | cons=>exact hf
         | _=>exact hf
       | _=>exact hf
    | _=>exact hf
  | _=>exact hf
theorem cmpV_cases {σ:AH} {P:CmpOp→AV→AV→Option Bool→Prop} (hf:∀ {op a b},P op a b none) (h1:∀ a b,P .Eq a b (eqA σ a b)) (h2:∀ a b,P .NotEq a b ((eqA σ a b).map (!·)))
  (h3:∀ x y,P .Lt (.int x) (.int y) (some (decide (x < y)))) (h4:∀ x y,P .LtE (.int x) (.int y) (some (decide (x≤y)))) (h5:∀ l m,P .LtE (.tup l) (.tup m) (leTup (.tup l) (.tup m)))
  (h6:∀ x y,P .Gt (.int x) (.int y) (some (decide (y < x)))) (h7:∀ x y,P .GtE (.int x) (.int y) (some (decide (y≤x)))) (h8:∀ a,P .Is a .none (some (isNone a))) (h9:∀ a,P .IsNot a .none (some (!isNone a)))
  (h10:∀ a b,P .In a b (inA σ a b)) (h11:∀ a b,P .NotIn a b ((inA σ a b).map (!·))):∀ op a b,P op a b (cmpV σ op a b):=by
 intro op a b
 cases op with
 | Eq=>exact h1 _ _
 | NotEq=>exact h2 _ _
 | In=>exact h10 _ _
 | NotIn=>exact h11 _ _
 | Is=>cases b<;>first | exact hf | exact h8 _
 | IsNot=>cases b<;>first | exact hf | exact h9 _
 | Lt=>
  cases a<;>try exact hf
  cases b<;>first | exact hf | exact h3 _ _
 | Gt=>
  cases a<;>try exact hf
  cases b<;>first | exact hf | exact h6 _ _
 | GtE=>
  cases a<;>try exact hf
  cases b<;>first | exact hf | exact h7 _ _
 | LtE=>
  cases a<;>try exact hf
  ·cases b<;>first | exact hf | exact h4 _ _
  ·cases b<;>first | exact hf | exact h5 _ _
theorem reps_two {ι:Img} {h:Heap} {a b:AV} {vs:List Value} (r:RepVs G ι h [a,b] vs):∃ v w,vs=[v,w]∧RepV G ι h a v∧RepV G ι h b w:=by
 cases vs with
 | nil=>exact False.elim r
 | cons v vs=>
  cases vs with
  | nil=>exact r.2.elim
  | cons w vs=>
   cases vs with
   | nil=>exact⟨v,w,rfl,r.1,r.2.1⟩
   | cons zz zy=>exact r.2.2.elim
theorem in_at {ι:Img} {σ:AH} {s:Shared} (hu:A.units + 1 < cLine) (I:Inv G fr ι σ s.heap) {a b:AV} {v w:Value} {r:Bool} (ha:RepV G ι s.heap a v) (hb:RepV G ι s.heap b w) (e:inA σ a b=some r) (Q:Value→Shared→Prop) (Q':Value→Shared→Prop) (E:Value→Shared→Prop):
  (Q (.bool r) s→wpAny (model G.prog G.w) A (compareOp .In v w) Q E s)∧(Q' (.bool !r) s→wpAny (model G.prog G.w) A (compareOp .NotIn v w) Q' E s):=by
 have flat:∀ {i:Nat} {l:List AV} {x:AV},RepV G ι s.heap x v→RepV G ι s.heap (.obj i) w→σ[i]? = some (.list l)→inFlat x l=some r →
   (Q (.bool r) s→wpAny (model G.prog G.w) A (compareOp .In v w) Q E s)∧(Q' (.bool !r) s→wpAny (model G.prog G.w) A (compareOp .NotIn v w) Q' E s):=by
  intro i l x hx hw hl e
  obtain⟨p,hp,rfl⟩:=hw
  obtain⟨_,vs,h1,h2⟩:=I.lst hl hp
  obtain⟨i1,i2⟩:=inFlat_at (A:=A.in1) (s:=s) hx h2 e
  exact⟨λ k=>in_listAt _ h1 (λ y hy=>i1 y (by simpa using hy)) (by rw [List.any_toArray,i2];exact k),λ k=>notIn_listAt _ h1 (λ y hy=>i1 y (by simpa using hy)) (by rw [List.any_toArray,i2];exact k)⟩
 refine inA_cases (P:=λ a b o=>o=some r→RepV G ι s.heap a v→RepV G ι s.heap b w→(Q (.bool r) s→wpAny (model G.prog G.w) A (compareOp .In v w) Q E s)∧(Q' (.bool !r) s→wpAny (model G.prog G.w) A (compareOp .NotIn v w) Q' E s)) (λ e=>no_none e) ?_ ?_ ?_ ?_ a b e ha hb
 ·clear I hu flat e σ
  intro c x e ha hb
  cases e
  obtain⟨_,t,rfl⟩:=ha
  obtain⟨_,u,rfl⟩:=hb
  have key:=StrLaws.found_one ⟨x.toArray⟩ c
  simp only at key
  exact⟨λ k=>PyProof.Rows.in_str (by rw [key];exact k),λ k=>PyProof.Rows.notIn_str (by rw [key];exact k)⟩
 ·intro i j l hl e ha hb
  obtain⟨p,hp,rfl⟩:=hb
  obtain⟨_,vs,h1,h2⟩:=I.lst hl hp
  obtain⟨i1,i2⟩:=inLists_at (A:=A.in1) (s:=s) hu I ha h2 e
  exact⟨λ k=>in_listAt _ h1 (λ y hy=>i1 y (by simpa using hy)) (by rw [List.any_toArray,i2];exact k),λ k=>notIn_listAt _ h1 (λ y hy=>i1 y (by simpa using hy)) (by rw [List.any_toArray,i2];exact k)⟩
 ·exact λ a j l hl e ha hb=>flat ha hb hl e
 ·intro a l e ha hb
  refine ex24 (hb) λ x vs rr2 h1 h2 zz=>?_
  subst rr2
  obtain⟨i1,i2⟩:=inFlat_at (A:=A.in1) (s:=s) ha h2 e
  exact⟨λ k=>in_tupleAt _ h1 (λ y hy=>i1 y (by simpa using hy)) (by rw [List.any_toArray,i2];exact k),λ k=>notIn_tupleAt _ h1 (λ y hy=>i1 y (by simpa using hy)) (by rw [List.any_toArray,i2];exact k)⟩
theorem cmp_snd (hu:A.units + 1 < cLine) (op:CmpOp) (a b:AV) (v w:Value):Snd G A fr (λ ι h=>RepV G ι h a v∧RepV G ι h b w) (compareOp op v w) (cmpA op a b) RBv:=by
 refine snd_leaf λ ι σ s r σ' ht I hp e=>?_
 obtain⟨ha,hb⟩:=hp
 have hu':A.units < cLine:=Nat.lt_of_succ_lt hu
 have run:∀ {o:Option Bool},(match o with | some b=>some (.ok b,σ) | none=>none:Option (Except AV Bool×AH))=some (r,σ')→∃ b,o=some b∧r = .ok b∧σ=σ':=λ {o} e=>by
  cases o with
  | none=>cases e
  | some b=>cases e;exact⟨b,rfl,rfl,rfl⟩
 obtain⟨c,hc,rfl,rfl⟩:=run e
 refine⟨c,λ zz=>.bool c,rfl,rfl,λ Q E k=>?_,λ zz=>rfl⟩
 have k':Q (.bool c) s:=k s.toks _ rfl
 clear k run e ht
 have mp:∀ {o:Option Bool},o.map (!·)=some c→∃ r,o=some r∧c = !r:=λ q=>by
  obtain⟨r,h,k⟩:=Option.map_eq_some_iff.mp q
  exact⟨r,h,k.symm⟩
 refine cmpV_cases (P:=λ op a b o=>o=some c→RepV G ι s.heap a v→RepV G ι s.heap b w→wpAny (model G.prog G.w) A (compareOp op v w) Q E s) (λ e=>no_none e) ?_ ?_ ?_ ?_ ?_ ?_ ?_ ?_ ?_ ?_ ?_ op a b hc ha hb
 ·exact λ a b hc ha hb=>(eqA_at hu' I ha hb hc).1 _ _ _ _ k'
 ·intro a b e ha hb
  obtain⟨r,hr,rfl⟩:=mp e
  exact (eqA_at hu' I ha hb hr).2 _ _ _ _ k'
 ·rintro x y e ⟨t,rfl⟩ ⟨u,rfl⟩;cases e;exact PyProof.Rows.lt_int k'
 ·rintro x y e ⟨t,rfl⟩ ⟨u,rfl⟩;cases e;exact PyProof.Rows.le_int k'
 ·refine leTup_cases (P:=λ l m o=>o=some c→RepV G ι s.heap (.tup l) v→RepV G ι s.heap (.tup m) w→wpAny (model G.prog G.w) A (compareOp .LtE v w) Q E s) (λ e=>no_none e) λ x y z u e ha hb=>?_
  cases e
  obtain⟨x,vs,rfl,t1,r1,_⟩:=ha
  obtain⟨y,ws,rfl,t2,r2,_⟩:=hb
  obtain⟨v1,v2,rfl,⟨_,rfl⟩,_,rfl⟩:=reps_two r1
  obtain⟨w1,w2,rfl,⟨_,rfl⟩,_,rfl⟩:=reps_two r2
  exact le_tups hu' t1 t2 k'
 ·rintro x y e ⟨t,rfl⟩ ⟨u,rfl⟩;cases e;exact PyProof.Rows.gt_int k'
 ·rintro x y e ⟨t,rfl⟩ ⟨u,rfl⟩;cases e;exact PyProof.Rows.ge_int k'
 ·intro a e ha hb;cases e;cases hb;exact is_none_gen (by rw [isNone_rep ha];exact k')
 ·intro a e ha hb;cases e;cases hb;exact isnot_none_gen (by rw [isNone_rep ha];exact k')
 ·exact λ a b hc ha hb=>(in_at hu I ha hb hc _ (λ zz zz=>True) _).1 k'
 ·intro a b e ha hb
  obtain⟨r,hr,rfl⟩:=mp e
  exact (in_at hu I ha hb hr (λ zz zz=>True) _ _).2 k'
end
end
section
open PySem PySem.W PySem.Calls PyProof.Rows
section
variable {G:Gd} {ι ι':Img} {h h':Heap}
mutual
theorem RepV.mono (hi:∀ (i:Nat) p,ι[i]? = some p→ι'[i]? = some p) (k:∀ b o,h.get? b=some o→h'.get? b=some o):∀ (a:AV) (v:Value),RepV G ι h a v→RepV G ι' h' a v
 | .none,zz,x=>x
 | .bool zz,zy,x=>x
 | .int zz,zy,x=>x
 | .str zz,zy,x=>x
 | .tup l,zz,x=>by
  refine ex24 (x) λ a vs rr2 ht hl hz=>?_
  subst rr2
  exact⟨a,vs,rfl,ht.keeps k,RepVs.mono hi k l vs hl,hz⟩
 | .obj i,zz,x=>by
  obtain⟨p,hp,rfl⟩:=x
  exact⟨p,hi _ _ hp,rfl⟩
 | .val zz,zy,x=>x
 | .bi zz,zy,x=>x
 | .fl zz,zy,x=>x
 | .rng zz zy,zx,x=>by
  refine ex43 (x) λ a t u c rr4 hr hs=>?_
  subst rr4
  exact⟨a,t,u,c,rfl,k _ _ hr,hs⟩
theorem RepVs.mono (hi:∀ (i:Nat) p,ι[i]? = some p→ι'[i]? = some p) (k:∀ b o,h.get? b=some o→h'.get? b=some o):∀ (l:List AV) (vs:List Value),RepVs G ι h l vs→RepVs G ι' h' l vs
 | [],[],zz=>trivial
 | a :: l,v :: vs,x=>by
  exact⟨RepV.mono hi k a v x.1,RepVs.mono hi k l vs x.2⟩
 | [],_ :: _,x=>False.elim x
 | _ :: _,[],x=>False.elim x
end
end
inductive FnK (K:Frag) (a:Addr) (ps:List Str) (body:List Stmt) (sc:Scope):Prop
 | mk (oc:Value) (od:Option Addr) (osl:Array (Option Value)) (name qual:Str) (params:Arguments) (doc pm:Value) (an:Option Addr) (cdv ct:Value)
  (hk:K.lookup a=some ⟨oc,od,.func (fnOf name qual params body sc .none .none doc pm an cdv ct),osl⟩) (hcd:codeIn K cdv qual=true)
  (hpar:params = { posonlyargs:=[],args:=params.args,vararg:=none,kwonlyargs:=[],kw_defaults:=[],kwarg:=none,defaults:=[] }) (hps:ps=params.args.map (·.arg))
structure Gok (G:Gd):Prop where
 lim:G.base.NoLimit
 glob:∀ x v,G.T.glob x=some v→(∃ u,nsIn G.K mainGlobals x=some (some u)∧RepV G [] G.base v u) ∨
  (nsIn G.K mainGlobals x=some none∧x≠"__name__"∧∃ b,v = .bi b∧bootBuiltins x=some b.toV)
 fn:∀ a ps body sc,G.T.fn a=some (ps,body,sc)→FnK G.K a ps body sc
 ini:∀ C f,G.T.ini C=some f→makesIn G.K C=true∧findIn G.K (.ref C) "__init__" = some (some (.ref f))∧typeIn G.K (.ref f)=some (.type "function")∧G.T.fn C=none
 fld:∀ C x,G.T.fld C x=true→plainGet G.K C x=true∧hasDictIn G.K C=true∧findIn G.K (.ref C) x=some none∧findIn G.K (.ref C) "__setattr__" = some (some (.builtin "object.__setattr__"))∧plainOver G.K C=true∧takerIn G.K C x=some none
 meth:∀ C x f,G.T.meth C x=some f→plainGet G.K C x=true∧findIn G.K (.ref C) x=some (some (.ref f))∧isFn G.K (.ref f)=true
 inst:∀ C D,G.T.inst C=true→G.T.inst D=true→kitOne G.K (.ref D) (.ref C)=some (decide (D=C))
 instX:∀ D,G.T.inst D=true→plainGet G.K D "__class__" = true∧hasDictIn G.K D=true∧findIn G.K (.ref D) "__class__" = some (some (.builtin "object.__class__"))∧mroIn G.K D (.type "object")=some true
 kcls:specialIn G.K (.builtin "object.__class__") "__get__" = some (some (.builtin "getset_descriptor.__get__"))∧takesIn G.K (.builtin "object.__class__")=some true
 bis:kitOne G.K (.type "str") (.type "str")=some true∧kitOne G.K (.type "str") (.type "list")=some false∧kitOne G.K (.type "list") (.type "str")=some false∧kitOne G.K (.type "list") (.type "list")=some true
 live:∀ a ps,G.T.fn a=some ps→keepIn G.K (.ref a)=true
 liveC:∀ a f,G.T.ini a=some f→keepIn G.K (.ref a)=true
structure At (A:Around) (fr:List Addr) (d:Nat):Prop where
 handled:A.handled=none
 frames:∃ fenv outer L,A.frames=some (fenv :: outer)∧fenv.frame=some L∧fr=L :: outer.filterMap (·.frame)∧∀ e∈fenv :: outer,e.scope.kind≠.module∧e.frame.isSome=true
 depth:A.depth + 8 * d + 20 < recursionLimit
 units:A.units + 100 * d + 400 < cLine
structure En (env:Env) (sc:Scope) (fr:List Addr):Prop where
 kind:env.scope.kind = .function
 glob:env.globals=mainGlobals
 blt:env.builtins=builtinsNs
 frame:∃ L r,fr=L :: r∧env.frame=some L
 loc:∀ x,sc.names.lookup x=some .local→env.kindOf x=some .local
 cel:∀ x,sc.names.lookup x=some .cell→env.kindOf x=some .cell
 fre:∀ x,sc.names.lookup x=some .free→env.kindOf x=some .free∨env.kindOf x=some .cell
 gl:∀ x,sc.names.lookup x=some .globalImplicit→env.kindOf x=some .globalImplicit
 ok:scOk sc=true
structure Loc (G:Gd) (env:Env) (lc:Lc) (ι:Img) (h:Heap):Prop where
 ns:∃ m,h.Ns env.locals m∧∀ x a,kvGet lc x=some a→env.kindOf x=some .local→∃ u,m x=some u∧RepV G ι h a u
 cells:∀ x c,env.cells.lookup x=some c→∃ v,h.IsCell c v∧∀ a,kvGet lc x=some a→env.kindOf x=some .cell∨env.kindOf x=some .free→∃ u,v=some u∧RepV G ι h a u
 has:∀ x,env.kindOf x=some .cell∨env.kindOf x=some .free→∃ c,env.cells.lookup x=some c
 own:¬ Own ι env.locals
section
variable {G:Gd} {A:Around} {fr:List Addr} {d:Nat} {env:Env} {sc:Scope} {lc:Lc}
theorem At.ne (H:At A fr d):fr≠[]:=by
 refine ex34 (H.frames) λ zz zz zz zz zz e zz=>?_
 rw [e];exact List.cons_ne_nil _ _
theorem Pers.loc:Pers G fr (Loc G env lc):=by
 intro ι ι' σ h h' I S X
 refine ex12 (X.ns) λ m hm hl=>?_
 have hm':=hm
 refine ex33 (hm') λ o es ep ho hd hk=>?_
 refine⟨⟨m,?_,λ x a e k=>let ⟨u,h1,h2⟩:=hl x a e k;⟨u,h1,RepV.step I S mildNo _ _ h2⟩⟩,λ x c e=>?_,X.has,S.notOwn ho X.own⟩
 ·by_cases hb:env.locals∈fr
  ·exact S.ns _ hb (λ w=>w.elim) m hm
  ·exact⟨o,es,ep,S.keep _ _ ho X.own hb (λ w=>w.elim),hd,hk⟩
 ·refine ex12 (X.cells x c e) λ v hc hv=>?_
  have n1:=(I.cellFree hc).1
  have n2:=(I.cellFree hc).2
  refine ex12 (hc) λ oc hoc hdc=>?_
  exact⟨v,⟨oc,S.keep _ _ hoc n1 n2 (λ w=>w.elim),hdc⟩,λ a e k=>let ⟨u,h1,h2⟩:=hv a e k;⟨u,h1,RepV.step I S mildNo _ _ h2⟩⟩
theorem scOk_name (ok:scOk sc=true) {x:Str} {k:NameKind} (e:sc.names.lookup x=some k):(x == ("__debug__":Str))=false∧(x == ("__classdict__":Str))=false:=by
 unfold scOk at ok
 simp only [Bool.and_eq_true,List.all_eq_true,decide_eq_true_eq] at ok
 have hm:(x,k)∈sc.names:=by
  have key:∀ l:List (Str×NameKind),l.lookup x=some k→(x,k)∈l:=by
   intro l
   induction l with
   | nil=>intro q;cases q
   | cons p r ih=>
    obtain⟨y,j⟩:=p
    intro q
    rw [List.lookup_cons] at q
    cases hb:x == y with
    | true=>rw [hb] at q;cases q;rw [beq_iff_eq.mp hb];exact .head _
    | false=>rw [hb] at q;exact .tail _ (ih q)
  exact key _ e
 have:=ok.2 _ hm
 constructor
 ·rw [beq_eq_false_iff_ne];exact this.1
 ·rw [beq_eq_false_iff_ne];exact this.2
theorem const_snd {P:Img→Heap→Prop} (c:Const):Snd G A fr P (constValue env c) (constA c) (RV G):=by
 refine snd_leaf λ ι σ s r σ' ht I hp e=>?_
 cases c with
 | none=>cases e;exact⟨.none,λ zz=>.none,rfl,rfl,λ Q E k=>wpAny_pure (k s.toks _ rfl),λ zz=>rfl⟩
 | bool b=>cases e;exact⟨_,λ zz=>_,rfl,rfl,λ Q E k=>wpAny_pure (k s.toks _ rfl),λ zz=>rfl⟩
 | int i=>cases e;exact⟨.int i,λ zz=>.int i s.toks,rfl,rfl,λ Q E k=>wpAny_mkInt (k _ _ rfl),λ zz=>⟨_,rfl⟩⟩
 | str x=>
  by_cases hz:x.cps.size≤maxLen
  ·have e:(pure (.str x.cps.toList):PM AV) σ=some (r,σ'):=(congrFun (if_pos hz) σ).symm.trans e
   cases e
   exact⟨.str x.cps.toList,λ zz=>.str x s.toks,rfl,rfl,λ Q E k=>wpAny_mkText (k _ _ rfl),λ zz=>⟨hz,s.toks,rfl⟩⟩
  ·exact no_none ((congrFun (if_neg hz) σ).symm.trans e)
 | _=>cases e
theorem name_snd (K:Gok G) (X:En env sc fr) {x:Str} {pos:Pos}:Snd G A fr (Loc G env lc) (eval (.Name x pos) env) (nameA G.T sc lc x) (RV G):=by
 refine snd_leaf λ ι σ s r σ' ht I hp e=>?_
 have loc:∀ {m:Option AV},PM.ofOpt m σ=some (r,σ')→∃ a,m=some a∧r = .ok a∧σ'=σ:=by
  intro m e
  cases m with
  | none=>cases e
  | some a=>cases e;exact⟨a,rfl,rfl,rfl⟩
 have cell:∀ {k:NameKind} {a:AV},sc.names.lookup x=some k→kvGet lc x=some a→env.kindOf x=some .cell∨env.kindOf x=some .free →
   ∃ (b:AV) (v:Tok→Value),(.ok a:Except AV AV) = .ok b∧σ=σ∧(∀ (Q:Value→Shared→Prop) E,(∀ tk v',v'=v tk→Q v' { s with toks:=tk })→wpAny (model G.prog G.w) A (eval (.Name x pos) env) Q E s)∧∀ tk,RV G b (v tk) ι s.heap:=by
  intro k a hx ha hk
  refine Exists.elim (hp.has x hk) λ c hc=>?_
  refine ex12 (hp.cells x c hc) λ v hv hr=>?_
  refine ex12 (hr a ha hk) λ u rr1 hu=>?_
  clear K hp I ht loc ha e hr σ' r
  subst rr1
  have dn:=scOk_name X.ok hx
  refine⟨a,λ zz=>u,rfl,rfl,λ Q E k=>wpAny_Name ?_ dn.1,λ zz=>hu⟩
  rcases hk with hk | hk
  ·exact wpAny_loadName_cell X.kind hk hc hv (k s.toks _ rfl)
  ·exact wpAny_loadName_free X.kind hk hc hv (k s.toks _ rfl) dn.2
 unfold nameA at e
 cases hx:sc.names.lookup x with
 | none=>rw [hx] at e;cases e
 | some kd=>
 rw [hx] at e
 cases kd
 ·obtain⟨a,ha,rfl,rfl⟩:=loc e
  obtain⟨m,hm,hl⟩:=hp.ns
  obtain⟨u,hu,hr⟩:=hl x a ha (X.loc x hx)
  exact⟨a,λ zz=>u,rfl,rfl,λ Q E k=>wpAny_Name (wpAny_loadName_local X.kind (X.loc x hx) hm hu (k s.toks _ rfl)) (scOk_name X.ok hx).1,λ zz=>hr⟩
 ·obtain⟨a,ha,rfl,rfl⟩:=loc e
  exact cell hx ha (.inl (X.cel x hx))
 ·obtain⟨a,ha,rfl,rfl⟩:=loc e
  exact cell hx ha ((X.fre x hx).symm.imp id id)
 ·cases e
 ·obtain⟨a,ha,rfl,rfl⟩:=loc e
  have dn:=scOk_name X.ok hx
  have KX:=G.hK
  have TR:=G.tr.keeps I.base
  clear hp ht KX cell loc e
  rcases K.glob x a ha with ⟨u,h1,h2⟩ | ⟨h1,h2,b,rfl,h3⟩
  ·refine⟨a,λ zz=>u,rfl,rfl,λ Q E k=>?_,λ zz=>RepV.mono (λ i p q=>by simp at q) I.base _ _ h2⟩
   exact Name_function_global X.kind (X.gl x hx) (loadGlobal_global (by rw [X.glob];exact TR.g) (mg_of G.hK G.tr.g h1) (k s.toks _ rfl)) dn.1
  ·refine⟨.bi b,λ zz=>b.toV,rfl,rfl,λ Q E k=>?_,λ zz=>rfl⟩
   exact Name_function_global X.kind (X.gl x hx) (loadGlobal_builtin (by rw [X.glob];exact TR.g) (mg_none_of G.hK G.tr.g h1) (by rw [X.blt];exact TR.b) ((TR.builtins x h2).trans h3) (k s.toks _ rfl)) dn.1
theorem truth_snd {P:Img→Heap→Prop} (a:AV) (v:Value):Snd G A fr (λ ι h=>P ι h∧RepV G ι h a v) (truthy v) (truthA a) RB:=by
 refine snd_leaf λ ι σ s r σ' ht I hp e=>?_
 obtain⟨-,hp⟩:=hp
 cases a with
 | bool b=>cases e;obtain rfl:=hp;exact⟨b,λ zz=>b,rfl,rfl,λ Q E k=>wpAny_truthy_bool (k s.toks _ rfl),λ zz=>rfl⟩
 | _=>cases e
end
theorem Ns_eq {h:Heap} {a:Addr} {m m':Str→Option Value} (x:h.Ns a m) (y:h.Ns a m'):m=m':=by
 refine ex34 (x) λ o es ep ho hd zz hm=>?_
 refine ex34 (y) λ o' es' ep' ho' hd' zz hm'=>?_
 rw [ho] at ho';cases ho'
 rw [hd] at hd';cases hd'
 funext n;rw [← hm,← hm']
noncomputable def snap (base h:Heap) (L:Addr):List (Addr×Obj):=(List.range h.objs.size).filterMap λ a=>if a=L then none else match base.get? a with
 | some zz=>none
 | none=>(h.get? a).map λ o=>(a,o)
set_option tactic.hygienic true in
theorem mem_snap {base h:Heap} {L a:Addr} {o:Obj}:(a,o)∈snap base h L↔a≠L∧base.get? a=none∧h.get? a=some o:=by
 unfold snap
 refine rwi (List.mem_filterMap ..) ?_
 constructor
 ·rintro⟨b,hb,e⟩
  split at e
  ·cases e
  ·rename_i hn
   split at e
   ·cases e
   ·rename_i hq
    refine ex12 (Option.map_eq_some_iff.mp e) λ o' ho e'=>?_
    clear e hb
    cases e'
    exact⟨hn,hq,ho⟩
 ·rintro⟨h1,h2,h3⟩
  refine⟨a,List.mem_range.mpr (Heap.lt_size h3),?_⟩
  rw [if_neg h1,h2,h3];rfl
theorem news_snap (base h:Heap) (L:Addr):News base L h (snap base h L):=λ p hp=>by
 obtain⟨h1,h2,h3⟩:=mem_snap.mp (show (p.1,p.2)∈_ from hp)
 exact⟨h3,h1,h2⟩
section
variable {G:Gd} {A:Around} {fr:List Addr} {ι:Img} {σ:AH} {h h':Heap} {L:Addr}
theorem Inv.frOf (I:Inv G fr ι σ h) (hL:L∈fr):∃ m,Fr G.base L h m:=by
 obtain⟨⟨m,hm⟩,_,hs⟩:=I.frames L hL
 exact⟨m,hm,I.base,hs⟩
theorem snap_kept (I:Inv G fr ι σ h) (hL:L∈fr) {m:Str→Option Value} {extra:List (Addr×Obj)} (F:Fr G.base L h m) (F':Fr G.base L h' m) (N':News G.base L h' (extra++snap G.base h L)):Kept fr h h':=by
 have key:∀ b o,b≠L→h.get? b=some o→h'.get? b=some o:=λ b o n e=>by
  cases hq:G.base.get? b with
  | some o'=>
   have:=I.base b o' hq
   rw [e] at this;cases this
   exact F'.keep b o hq
  | none=>exact (N' _ (List.mem_append_right _ (mem_snap.mpr ⟨n,hq,e⟩))).1
 refine⟨λ b o n e=>key b o (λ q=>n (q▸hL)) e,λ b hb m' e=>?_⟩
 by_cases hbL:b=L
 ·clear N' hL I hb key extra
  subst hbL
  rw [← Ns_eq F.ns e];exact F'.ns
 ·refine ex32 (e) λ o es ep ho r=>?_
  exact⟨o,es,ep,key b o hbL ho,r⟩
theorem get_size (h:Heap):h.get? h.objs.size=none:=Heap.get?_none_of_le (Nat.le_refl _)
theorem okP_list {s:Shared} {tk:Nat} {D:Addr} {l:List AV} {vs:List Value} (I:Inv G fr ι σ s.heap) (hn:fr≠[]) (k:Kept fr s.heap h') (hD:s.heap.get? D=none) (hl:h'.PlainList D (List.toArray vs)) (hr:RepVs G ι s.heap l vs) (hz:l.length≤maxLen):
  OkP G fr ι s (RV G (.obj σ.length)) (σ++[.list l]) (.ref D) { s with heap:=h',toks:=tk }:=by
 have Z:=I.add hn k (p:=(D,D)) (o:=.list l) hD hD λ S=>⟨rfl,hz,vs,hl,RepVs.step I S mildNo _ _ hr⟩
 refine⟨h',tk,_,rfl,Z.2,Z.1,?_⟩
 exact⟨(D,D),by rw [← I.len];simp,rfl⟩
theorem maxLen_fits:maxLen + maxLen≤sizeLine:=by rw [sizeLine_eq];decide
set_option tactic.hygienic true in
theorem newList_snd {l:List AV} {vs:List Value} (hn:fr≠[]):Snd G A fr (λ ι h=>RepVs G ι h l vs) (newList vs) (newL l) (RV G):=by
 intro ι σ s r σ' ht I hp e
 unfold newL at e
 split at e
 ·rename_i hz
  cases e
  have hlen:=hp.length
  refine wpAny_newObj_type ⟨_,rfl,?_⟩ (by show (List.toArray vs).size≤sizeLine;rw [List.size_toArray,hlen];exact Nat.le_trans hz (Nat.le_trans (Nat.le_add_right _ _) maxLen_fits))
  exact okP_list (tk:=s.toks) I hn (.of λ b o e=>Heap.get?_push_of_some _ e) (get_size _) ⟨0,Heap.get?_push_size _ rfl⟩ hp hz
 ·cases e
set_option tactic.hygienic true in
theorem newTuple_snd {l:List AV} {vs:List Value} (hn:fr≠[]):Snd G A fr (λ ι h=>RepVs G ι h l vs) (newTuple vs) (if l.length≤maxLen then pure (.tup l) else PM.fail:PM AV) (RV G):=by
 intro ι σ s r σ' ht I hp e
 split at e
 ·rename_i hz
  cases e
  have hlen:=hp.length
  refine wpAny_newObj_type ⟨_,rfl,?_⟩ (by show (List.toArray vs).size≤sizeLine;rw [List.size_toArray,hlen];exact Nat.le_trans hz (Nat.le_trans (Nat.le_add_right _ _) maxLen_fits))
  obtain⟨I',S⟩:=I.keeps hn (.of λ b o e=>Heap.get?_push_of_some _ e)
  refine⟨_,s.toks,ι,rfl,S,I',?_⟩
  exact⟨_,vs,rfl,⟨_,Heap.get?_push_size _ rfl,rfl,0,rfl⟩,RepVs.step I S mildNo _ _ hp,hz⟩
 ·cases e
theorem lst_of {i:Nat} {r:Except AV (List AV)} {σ':AH} (e:lsO i σ=some (r,σ')):∃ l,σ[i]? = some (.list l)∧r = .ok l∧σ'=σ:=by
 have e':PM.andThen (getO i) _ σ=some (r,σ'):=e
 unfold PM.andThen getO at e'
 clear e
 cases h:σ[i]? with
 | none=>rw [h] at e';cases e'
 | some o=>
  rw [h] at e'
  cases o with
  | list l=>cases e';exact⟨l,rfl,rfl,rfl⟩
  | inst=>cases e'
  | dict=>cases e'
theorem of_guard {α:Type} {c:Prop} [Decidable c] {m:PM α} {x:Except AV α×AH} (e:(if c then m else PM.fail) σ=some x):c∧m σ=some x:=by
 by_cases h:c
 ·rw [if_pos h] at e;exact⟨h,e⟩
 ·rw [if_neg h] at e;cases e
inductive Bnd {α β:Type} (m:PM α) (f:α→PM β) (σ:AH) (r:Except AV β) (σ':AH):Prop
 | er (p:AV) (h1:m σ=some (.error p,σ')) (h2:r = .error p)
 | ok (a:α) (σ₁:AH) (h1:m σ=some (.ok a,σ₁)) (h2:f a σ₁=some (r,σ'))
theorem andThen_cases {α β:Type} {m:PM α} {f:α→PM β} {σ:AH} {r:Except AV β} {σ':AH} (e:(m>>=f) σ=some (r,σ')):Bnd m f σ r σ':=by
 have e':PM.andThen m f σ=some (r,σ'):=e
 unfold PM.andThen at e'
 clear e
 cases hm:m σ with
 | none=>rw [hm] at e';cases e'
 | some q=>
  obtain⟨q,σ₁⟩:=q
  rw [hm] at e'
  cases q with
  | error p=>cases e';exact .er p hm rfl
  | ok a=>exact .ok a σ₁ hm e'
theorem Snd.step {α β γ:Type} {P:Img→Heap→Prop} {t:Sem α} {m:PM β} {R:β→α→Img→Heap→Prop} {g:β→PM γ} {s:Shared} {ι:Img} {σ σ':AH} {r:Except AV γ} {Q:α→Shared→Prop} {E:Value→Shared→Prop}
  (x:Snd G A fr P t m R) (ht:0 < s.toks) (I:Inv G fr ι σ s.heap) (hp:P ι s.heap) (e:(m>>=g) σ=some (r,σ')) (er:∀ e s',ErS G fr ι s r σ' e s'→E e s')
  (ok:∀ b v h₁ tk ι₁ σ₁,0 < tk→Step NoW fr ι ι₁ s.heap h₁→Inv G fr ι₁ σ₁ h₁→R b v ι₁ h₁→g b σ₁=some (r,σ')→Q v { s with heap:=h₁,toks:=tk }):wpAny (model G.prog G.w) A t Q E s:=by
 rcases andThen_cases e with ⟨p,q1,rfl⟩ | ⟨b,σ₁,q1,q2⟩
 ·exact wpAny_mono (x ι σ s _ _ ht I hp q1) (λ zz zz q=>q.no) λ zz zz q=>er _ _ ⟨_,rfl,q.er⟩
 ·refine wpAny_mono (wpAny_toks (x ι σ s _ _ ht I hp q1)) ?_ λ zz zz q=>q.1.no
  rintro v s' ⟨⟨b',q,h₁,tk,ι₁,rfl,S,I₁,hr⟩,htk⟩
  cases q
  exact ok b v h₁ tk ι₁ σ₁ (Nat.lt_of_lt_of_le ht htk) S I₁ hr q2
theorem bind_lst {β:Type} {i:Nat} {f:List AV→PM β} {r:Except AV β} {σ':AH} (e:(lsO i>>=f) σ=some (r,σ')):∃ l,σ[i]? = some (.list l)∧f l σ=some (r,σ'):=by
 rcases andThen_cases e with ⟨p,h1,_⟩ | ⟨a,σ₁,h1,h2⟩
 ·refine ex13 (lst_of h1) λ l zz e1 zz=>?_
  cases e1
 ·refine ex13 (lst_of h1) λ l hl e1 e2=>?_
  clear e h1
  cases e1;subst e2
  exact⟨_,hl,h2⟩
theorem bind_opt {α β:Type} {m:Option α} {f:α→PM β} {r:Except AV β} {σ':AH} (e:(PM.ofOpt m>>=f) σ=some (r,σ')):∃ a,m=some a∧f a σ=some (r,σ'):=by
 have e':PM.andThen (PM.ofOpt m) f σ=some (r,σ'):=e
 unfold PM.andThen at e'
 clear e
 cases m with
 | none=>cases e'
 | some a=>exact⟨a,rfl,e'⟩
theorem ofOpt_ok {β:Type} {m:Option β} {r:Except AV β} {σ':AH} (e:PM.ofOpt m σ=some (r,σ')):∃ b,m=some b∧r = .ok b∧σ'=σ:=by
 cases m with
 | none=>cases e
 | some b=>cases e;exact⟨b,rfl,rfl,rfl⟩
theorem smallI_bits {a:Int} (h:smallI a=true):Builtin.Int.intBits a≤64:=by
 simp only [smallI,decide_eq_true_eq] at h
 have h':a.natAbs < 2 ^ 63:=h
 exact intBits_le_64 (by lia) (by lia)
theorem Snd.cond {α β:Type} {P:Img→Heap→Prop} {t:Sem α} {R:β→α→Img→Heap→Prop} {c:Prop} [Decidable c] {m m':PM β} (h1:c→Snd G A fr P t m R) (h2:¬ c→Snd G A fr P t m' R):Snd G A fr P t (if c then m else m') R:=by
 by_cases h:c
 ·rw [if_pos h];exact h1 h
 ·rw [if_neg h];exact h2 h
theorem Snd.guard {α β:Type} {P:Img→Heap→Prop} {t:Sem α} {R:β→α→Img→Heap→Prop} {c:Prop} [Decidable c] {m:PM β} (h1:c→Snd G A fr P t m R):Snd G A fr P t (if c then m else PM.fail) R:=.cond h1 λ zz=>.fail
theorem OkS.same {α β:Type} {R:β→α→Img→Heap→Prop} {s:Shared} {c:β} {u:α} {tk:Tok} (I:Inv G fr ι σ s.heap) (q:R c u ι s.heap):OkS G fr ι s R (.ok c) σ u { s with toks:=tk }:=⟨c,rfl,s.heap,tk,ι,rfl,.refl,I,q⟩
theorem Snd.val {α β:Type} {P:Img→Heap→Prop} {t:Sem α} {R:β→α→Img→Heap→Prop} {c:β}
  (h:∀ {ι σ} {s:Shared},Inv G fr ι σ s.heap→P ι s.heap→∀ {Q:α→Shared→Prop} {E:Value→Shared→Prop},(∀ u tk,R c u ι s.heap→Q u { s with toks:=tk })→wpAny (model G.prog G.w) A t Q E s):Snd G A fr P t (Pure.pure c) R:=λ zz zz zz zz zz zz I hp e=>by
 cases e
 exact h I hp λ u tk q=>OkS.same I q
theorem binA_cases {P:Operator→AV→AV→PM AV→Prop} (hf:∀ {op a b},P op a b PM.fail) (h1:∀ a b,P .Add (.int a) (.int b) (Pure.pure (.int (a + b))))
  (h2:∀ a b,P .Add (.str a) (.str b) (if a.length + b.length≤maxLen then Pure.pure (.str (a++b)) else PM.fail)) (h3:∀ i j,P .Add (.obj i) (.obj j) (lsO i>>=λ a=>lsO j>>=λ b=>newL (a++b)))
  (h4:∀ a b,P .Sub (.int a) (.int b) (Pure.pure (.int (a - b)))) (h5:∀ a b,P .Mult (.int a) (.int b) (if smallI a || smallI b then Pure.pure (.int (a * b)) else PM.fail))
  (h6:∀ a b,P .FloorDiv (.int a) (.int b) (if b≠0∧smallI b=true then Pure.pure (.int (a.fdiv b)) else PM.fail)) (h7:∀ a b,P .Mod (.int a) (.int b) (if b≠0 then Pure.pure (.int (a.fmod b)) else PM.fail))
  (h8:∀ a b,P .Pow (.int a) (.int b) (if 0≤b∧b≤1000000∧smallI a=true then Pure.pure (.int (a ^ b.toNat)) else PM.fail)):∀ op a b,P op a b (binA op a b):=by
 intro op a b
 cases op<;>try exact hf
 all_goals cases a<;>try exact hf
 all_goals cases b<;>first | exact hf | exact h1 _ _ | exact h2 _ _ | exact h3 _ _ | exact h4 _ _ | exact h5 _ _ | exact h6 _ _ | exact h7 _ _ | exact h8 _ _
theorem bin_snd (hf:∃ L,L∈fr):∀ (op:Operator) (a b:AV) (v w:Value),Snd G A fr (λ ι h=>RepV G ι h a v∧RepV G ι h b w) (binaryOp op v w) (binA op a b) (RV G):=by
 refine binA_cases (P:=λ op a b m=>∀ v w,Snd G A fr (λ ι h=>RepV G ι h a v∧RepV G ι h b w) (binaryOp op v w) m (RV G)) (λ zz zz=>.fail) ?_ ?_ ?_ ?_ ?_ ?_ ?_ ?_
 ·refine λ x y v w=>.val λ I hp Q E q=>?_
  obtain⟨⟨t,rfl⟩,u,rfl⟩:=hp
  exact PyProof.Rows.add_int (q _ _ ⟨_,rfl⟩)
 ·refine λ x y v w=>.guard λ hz=>.val λ I hp Q E q=>?_
  obtain⟨⟨_,t,rfl⟩,_,u,rfl⟩:=hp
  exact PyProof.Rows.add_str (λ t' tk=>q _ _ ⟨by rw [List.length_append];exact hz,t',by show Value.str ⟨List.toArray x++List.toArray y⟩ t'=_;simp⟩) (by show (List.toArray x).size + (List.toArray y).size≤_;rw [List.size_toArray,List.size_toArray];exact Nat.le_trans hz (Nat.le_trans (Nat.le_add_right _ _) maxLen_fits))
 ·intro i j v w ι σ s r σ' ht I hp e
  obtain⟨⟨p,hp,rfl⟩,q,hq,rfl⟩:=hp
  refine ex12 (bind_lst e) λ l hl e=>?_
  refine ex12 (bind_lst e) λ l2 hl2 e=>?_
  unfold newL at e
  by_cases hz:(l++l2).length≤maxLen
  ·rw [if_pos hz] at e
   cases e
   obtain⟨z1,vs,i1,r1⟩:=I.lst hl hp
   obtain⟨z2,ws,i2,r2⟩:=I.lst hl2 hq
   obtain⟨L,hL⟩:=hf
   obtain⟨m,F⟩:=I.frOf hL
   refine add_lists F (news_snap _ _ _) i1 i2 (λ h' F' N'=>?_) (by rw [r1.length,r2.length];exact Nat.le_trans (Nat.add_le_add z1 z2) maxLen_fits)
   refine⟨_,rfl,okP_list (tk:=s.toks) I (λ q=>by rw [q] at hL;cases hL) (snap_kept I hL F F' (extra:=[_]) N') (get_size _) ?_ (r1.app r2) hz⟩
   exact⟨0,(N' _ (.head _)).1⟩
  ·rw [if_neg hz] at e
   cases e
 ·refine λ x y v w=>.val λ I hp Q E q=>?_
  obtain⟨⟨t,rfl⟩,u,rfl⟩:=hp
  exact PyProof.Rows.sub_int (q _ _ ⟨_,rfl⟩)
 ·refine λ x y v w=>.guard λ hz=>.val λ I hp Q E q=>?_
  obtain⟨⟨t,rfl⟩,u,rfl⟩:=hp
  refine PyProof.Rows.mul_int (q _ _ ⟨_,rfl⟩) ?_
  rcases Bool.or_eq_true_iff.mp hz with hz | hz
  ·exact IntMulOk.of_left (smallI_bits hz)
  ·exact IntMulOk.of_right (smallI_bits hz)
 ·refine λ x y v w=>.guard λ hz=>.val λ I hp Q E q=>?_
  obtain⟨⟨t,rfl⟩,u,rfl⟩:=hp
  refine PyProof.Rows.floordiv_int hz.1 (q _ _ ⟨_,rfl⟩) (.inl (PyProof.noPylong_of_log2 ?_))
  have:y.natAbs < 2 ^ 63:=of_decide_eq_true hz.2
  by_cases h0:y.natAbs=0
  ·rw [h0];decide +kernel
  ·exact Nat.lt_trans ((Nat.log2_lt h0).mpr this) (by decide)
 ·refine λ x y v w=>.guard λ hz=>.val λ I hp Q E q=>?_
  obtain⟨⟨t,rfl⟩,u,rfl⟩:=hp
  exact mod_int' hz (q _ _ ⟨_,rfl⟩)
 ·refine λ x y v w=>.guard λ hz=>.val λ I hp Q E q=>?_
  obtain⟨⟨t,rfl⟩,u,rfl⟩:=hp
  have h63:x.natAbs < 2 ^ 63:=of_decide_eq_true hz.2.2
  exact pow_int_small hz.1 hz.2.1 (by lia) (q _ _ ⟨_,rfl⟩)
end
section
variable {G:Gd} {A:Around} {fr:List Addr} {ι:Img} {σ:AH} {h h':Heap} {L:Addr}
theorem kv_get {x:Str} {a:AV}:∀ {fs:List (Str×AV)} {es:List DictEntry},RepKv G ι h fs es→kvGet fs x=some a→∃ u,W.getL x es=some (some u)∧RepV G ι h a u
 | (y,b) :: r,e :: es,R,q=>by
  obtain⟨⟨t,hk⟩,_,hv,hr⟩:=R
  unfold kvGet at q
  unfold W.getL
  refine rwg (List.find?_cons ..) ?_
  by_cases hxy:y=x
  ·rw [if_pos hxy] at q
   cases q
   have:e.key.isStr x=true:=by rw [hk,hxy];simp [Value.isStr]
   rw [this]
   exact⟨e.val,rfl,hv⟩
  ·rw [if_neg hxy] at q
   have hf:e.key.isStr x=false:=by rw [hk];simpa [Value.isStr] using hxy
   refine rwg (hf ..) ?_
   refine ex12 (kv_get hr q) λ u h1 h2=>?_
   refine⟨u,?_,h2⟩
   unfold W.getL at h1
   refine rwg (List.any_cons ..) ?_
   have:e.refKey=false:=by rw [DictEntry.refKey,hk]
   refine rwg (this ..) ?_
   refine rwg (Bool.false_or ..) ?_
   exact h1
 | [],zz,zy,q=>by cases q
 | _ :: _,[],R,_=>R.elim
theorem kv_miss {x:Str}:∀ {fs:List (Str×AV)} {es:List DictEntry},RepKv G ι h fs es→kvGet fs x=none→W.getL x es=some none
 | [],[],zz,zy=>rfl
 | (y,b) :: r,e :: es,R,q=>by
  obtain⟨⟨t,hk⟩,_,hv,hr⟩:=R
  unfold kvGet at q
  unfold W.getL
  refine rwg (List.find?_cons ..) ?_
  by_cases hxy:y=x
  ·rw [if_pos hxy] at q;cases q
  ·rw [if_neg hxy] at q
   refine rwg ((by rw [hk];simpa [Value.isStr] using hxy:e.key.isStr x=false) ..) ?_
   have h1:=kv_miss hr q
   unfold W.getL at h1
   refine rwg (List.any_cons ..) ?_
   have:e.refKey=false:=by rw [DictEntry.refKey,hk]
   refine rwg (this ..) ?_
   refine rwg (Bool.false_or ..) ?_
   exact h1
 | [],_ :: _,R,_=>R.elim
 | _ :: _,[],R,_=>R.elim
theorem kv_len:∀ {fs:List (Str×AV)} {es:List DictEntry},RepKv G ι h fs es→es.length=fs.length
 | [],[],zz=>rfl
 | _ :: _,_ :: _,R=>by simp [kv_len R.2.2.2]
 | [],_ :: _,R=>R.elim
 | _ :: _,[],R=>R.elim
theorem handed_rep {a:AV} {v:Value} (x:RepV G ι h a v):handedIn v=true:=by
 cases a
 ·obtain rfl:=x;rfl
 ·obtain rfl:=x;rfl
 ·obtain⟨t,rfl⟩:=x;rfl
 ·obtain⟨_,t,rfl⟩:=x;rfl
 ·obtain⟨a,vs,rfl,_⟩:=x;rfl
 ·obtain⟨p,_,rfl⟩:=x;rfl
 ·obtain⟨rfl,_⟩:=x;rfl
 ·obtain rfl:=x;cases b<;>first | rfl | decide +kernel
 ·obtain⟨a,vs,rfl,_⟩:=x;rfl
 ·obtain⟨a,t,u,c,rfl,_⟩:=x;rfl
inductive InsAt (G:Gd) (ι:Img) (h:Heap) (p:Addr×Addr) (C:Nat) (fs:List (Str×AV)):Prop
 | mk (hz:fs.length≤100) (es:List DictEntry) (n:Nat) (IA:InstAt h p.1 (instObj C p.2) C (some (dictOf es n))) (h2:h.get? p.2=some (dictOf es n)) (hr:RepKv G ι h fs es)
theorem Inv.inst (I:Inv G fr ι σ h) {i:Nat} {C:Nat} {fs:List (Str×AV)} {p:Addr×Addr} (e:σ[i]? = some (.inst C fs)) (hp:ι[i]? = some p):
  InsAt G ι h p C fs:=by
 obtain⟨h1,hz,es,n,h2,hr⟩:=I.at_ i _ p e hp
 exact⟨hz,es,n,⟨h1,rfl,rfl,h2⟩,h2,hr⟩
theorem getO_bind {β:Type} {i:Nat} {f:AO→PM β} {r:Except AV β} {σ':AH} (e:(getO i>>=f) σ=some (r,σ')):∃ o,σ[i]? = some o∧f o σ=some (r,σ'):=by
 have e':PM.andThen (getO i) f σ=some (r,σ'):=e
 unfold PM.andThen getO at e'
 cases h:σ[i]? with
 | none=>rw [h] at e';cases e'
 | some o=>rw [h] at e';exact⟨o,rfl,e'⟩
theorem attr_snd (K:Gok G) (hL:∃ L,L∈fr) (o:AV) (v:Value) (x:Str) (base:Expr):
  Snd G A fr (λ ι h=>RepV G ι h o v) (do let r ← holding [v] (getAttr v x true);letTemporaryGo base v r;pure r) (attrA G.T o x) (RV G):=by
 cases o with
 | obj i=>
  intro ι σ s r σ' ht I hp e
  refine ex12 (getO_bind e) λ ob ho e=>?_
  cases ob with
  | list=>cases e
  | dict=>cases e
  | inst C fs=>
   by_cases hf:G.T.fld C x=true
   ·refine ex13 (ofOpt_ok ((congrFun (if_pos hf) σ).symm.trans e)) λ a ha rr2 rr3=>?_
    subst rr2
    subst rr3
    obtain⟨p,hp,rfl⟩:=hp
    obtain⟨_,es,n,IA,h2,hr⟩:=I.inst ho hp
    obtain⟨u,hu,ru⟩:=kv_get hr ha
    obtain⟨L,hL⟩:=hL
    obtain⟨m,F⟩:=I.frOf hL
    obtain⟨f1,f2,f3,_⟩:=K.fld C x hf
    refine wpAny_bind (wpAny_holding (get_own F G.hK IA f1 f2 f3 rfl hu (handed_rep ru) ?_))
    exact wpAny_bind (wpAny_letTemporaryGo (wpAny_pure (OkS.same I ru)))
   ·exact no_none ((congrFun (if_neg hf) σ).symm.trans e)
 | _=>exact .fail
set_option tactic.hygienic true in
theorem placeOf_seq {k:Int} {n j:Nat} (e:placeOf k n=some j):seqIndex? k n=some j:=by
 unfold placeOf at e
 unfold seqIndex?
 split at e
 ·rename_i h0
  split at e
  ·rename_i h1
   cases e
   simp [Int.not_lt.mpr h0,h0,h1]
  ·cases e
 ·rename_i h0
  split at e
  ·rename_i h1
   cases e
   have h0':k < 0:=by lia
   have:k + (n:Int) < n:=by lia
   simp [h0',h1,this]
  ·cases e
theorem placeOf_lt {k:Int} {n j:Nat} (e:placeOf k n=some j) (hn:n≤maxLen):-(2 ^ 63)≤k∧k < 2 ^ 63∧j < n∧((0≤k∧j=k.toNat)∨(k < 0∧-(n:Int)≤k∧j=(k + n).toNat)):=by
 have:n≤1000000:=hn
 unfold placeOf at e
 split at e
 ·split at e
  ·cases e;lia
  ·cases e
 ·split at e
  ·cases e;lia
  ·cases e
theorem tail_ops (slice:Expr) (o i:Value):∃ ops,subscripted slice false o i=operate ops (getItem o i):=by
 cases slice with
 | Slice a b c p=>cases c<;>exact⟨_,rfl⟩
 | _=>exact⟨_,rfl⟩
theorem tempGo_str (base:Expr) (x:Str) (t:Tok) (r:Value):letTemporaryGo base (.str x t) r=pure ():=by cases base<;>rfl
theorem ps_get {x:Str} {a:AV}:∀ {fs:List (Str×AV)} {kvs:List (Str×Value)},fs.map (·.1)=kvs.map (·.1)→RepVs G ι h (fs.map (·.2)) (kvs.map (·.2))→kvGet fs x=some a→∃ u,valueAt kvs x=some u∧RepV G ι h a u
 | (y,b) :: r,(z,v) :: es,k,R,q=>by
  simp only [List.map_cons,List.cons.injEq] at k
  obtain⟨rfl,k⟩:=k
  unfold kvGet at q
  unfold valueAt
  rw [List.find?_cons]
  by_cases hxy:y=x
  ·rw [if_pos hxy] at q
   cases q
   rw [decide_eq_true hxy]
   exact⟨v,rfl,R.1⟩
  ·rw [if_neg hxy] at q
   rw [decide_eq_false hxy]
   exact ps_get k R.2 q
 | [],zz,zy,zx,q=>by cases q
 | _ :: _,[],k,_,_=>by simp at k
theorem at_list {P:Img→Heap→Prop} {R:AV→Value→Img→Heap→Prop} {l:Nat} {k:Int} {t:Sem Value} {α:Type} {g:Nat→Option α} {f:α→AV}
  (h:∀ j c,placeOf k l=some j→g j=some c→Snd G A fr P t (Pure.pure (f c)) R):Snd G A fr P t (PM.ofOpt (((placeOf k l).bind g).map f)) R:=by
 cases hj:placeOf k l with
 | none=>exact .fail
 | some j=>cases hc:g j with
  | none=>rw [Option.bind_some,hc];exact .fail
  | some c=>rw [Option.bind_some,hc];exact h j c hj hc
theorem item_list {s:Shared} {a:Addr} {vs:List Value} {k:Int} {t:Tok} {j n:Nat} {u:Value} {slice value:Expr} {Q:Value→Shared→Prop} {E:Value→Shared→Prop} (i1:s.heap.IsList a vs.toArray) (hn:vs.length=n) (hj:placeOf k n=some j) (hz:n≤maxLen)
  (hu:vs[j]? = some u) (q:Q u s):wpAny (model G.prog G.w) A (subscriptTail value slice (.ref a) (.int k t)) Q E s:=by
 obtain⟨b1,b2,b3,b⟩:=placeOf_lt hj hz
 obtain⟨ops,hops⟩:=tail_ops slice (.ref a) (.int k t)
 refine tail_any i1.typeIs slot_list_getitem.lookup ?_ hops
 rcases b with ⟨c,d⟩ | ⟨c,d1,d⟩
 ·exact wpAny_getItem_list i1 c b2 (by rw [← d];simpa using hu) q
 ·exact wpAny_getItem_list_neg i1 c (by simpa [hn] using d1) b1 (by rw [List.size_toArray,hn,← d];simpa using hu) q
theorem sub_snd (o i:AV) (v w:Value) (value slice:Expr):
  Snd G A fr (λ ι h=>RepV G ι h o v∧RepV G ι h i w) (subscriptTail value slice v w) (subA o i) (RV G):=by
 cases o with
 | obj i0=>cases i with
  | int k=>
   intro ι σ s r σ' ht I hp e
   obtain⟨⟨p,hp,rfl⟩,t,rfl⟩:=hp
   obtain⟨ob,ho,e⟩:=getO_bind e
   cases ob with
   | inst=>cases e
   | dict=>cases e
   | list l=>
    obtain⟨a,ha,rfl,rfl⟩:=ofOpt_ok e
    obtain⟨j,hj,ha⟩:=Option.bind_eq_some_iff.mp ha
    obtain⟨hz,vs,i1,r1⟩:=I.lst ho hp
    obtain⟨u,hu,ru⟩:=r1.get ha
    exact item_list i1 r1.length hj hz hu (OkS.same (tk:=s.toks) I ru)
  | str x=>
   intro ι σ s r σ' ht I hp e
   obtain⟨⟨p,hp,rfl⟩,_,t,rfl⟩:=hp
   obtain⟨ob,ho,e⟩:=getO_bind e
   cases ob with
   | inst=>cases e
   | list=>cases e
   | dict fs=>
    obtain⟨a,ha,rfl,rfl⟩:=ofOpt_ok e
    obtain⟨_,hz,kvs,hd,hk,hr⟩:=I.at_ i0 _ p ho hp
    obtain⟨u,hu,ru⟩:=ps_get hk hr ha
    obtain⟨ops,hops⟩:=tail_ops slice (.ref p.1) (.str ⟨x.toArray⟩ t)
    exact tail_any hd.mapOf.typeIs slot_dict_getitem.lookup (wpAny_getItem_of (strKind_is G.prog G.w _ t) hd.mapOf hu (OkS.same I ru)) hops
  | _=>exact .fail
 | tup l=>cases i with
  | int k=>
   intro ι σ s r σ' ht I hp e
   obtain⟨⟨a0,vs,rfl,ht,hl,hz⟩,t,rfl⟩:=hp
   obtain⟨a,ha,rfl,rfl⟩:=ofOpt_ok e
   obtain⟨j,hj,ha⟩:=Option.bind_eq_some_iff.mp ha
   obtain⟨u,hu,ru⟩:=hl.get ha
   have b:=placeOf_lt hj hz
   obtain⟨ops,hops⟩:=tail_ops slice (.ref a0) (.int k t)
   exact tail_any ht.typeIs slot_tuple_getitem.lookup (PyProof.Rows.getItem_tuple ht b.1 b.2.1 (by rw [List.size_toArray,hl.length];exact placeOf_seq hj) (by simpa using hu) (OkS.same (tk:=s.toks) I ru)) hops
  | _=>exact .fail
 | str x=>cases i with
  | int k=>
   refine at_list λ j c hj hc=>.val λ {ι σ s} I hp Q E q=>?_
   obtain⟨⟨hz,t,rfl⟩,t',rfl⟩:=hp
   have b:=placeOf_lt hj hz
   obtain⟨ops,hops⟩:=tail_ops slice (.str ⟨x.toArray⟩ t) (.int k t')
   refine tail_any (typeIs_str s _ t) slot_str_getitem.lookup (PyProof.Rows.getItem_str (c:=c) ?_ ?_ (q _ _ ⟨by show 1≤1000000;decide,_,rfl⟩)) hops
   ·rw [decide_eq_false (Int.not_lt.mpr b.1),decide_eq_false (Int.not_le.mpr b.2.1)];rfl
   ·show (seqIndex? k (List.toArray x).size).bind _=_
    rw [List.size_toArray,placeOf_seq hj]
    simpa using hc
  | _=>exact .fail
 | fl l=>cases i with
  | int k=>
   refine at_list λ j c hj hc=>.val λ {ι σ s} I hp Q E q=>?_
   obtain⟨⟨a0,vs,rfl,hl,hi,hz⟩,t',rfl⟩:=hp
   obtain⟨tk,hu⟩:=hi.get j c hc
   exact item_list (hl.at λ o e=>I.base _ o e) hi.length hj (Nat.le_trans hz (by decide)) hu (q _ s.toks ⟨_,rfl⟩)
  | _=>exact .fail
 | _=>exact .fail
end
end
section
open PySem PySem.W PySem.Calls PyProof.Rows PySem.Builtin.Str
section
variable {G:Gd} {A:Around} {fr:List Addr} {ι:Img} {σ:AH} {h h':Heap} {L:Addr}
noncomputable def KeptBut (c:Addr) (fr:List Addr) (h h':Heap):Prop:=(∀ b o,b≠c→b ∉ fr→h.get? b=some o→h'.get? b=some o)∧∀ b∈fr,∀ m,h.Ns b m→h'.Ns b m
theorem Inv.upd' (I:Inv G fr ι σ h) (hn:fr≠[]) {i:Nat} {p:Addr×Addr} {o':AO} {c:Addr} (hp:ι[i]? = some p) (hc:c=p.1∨c=p.2) (hs:KeptBut c fr h h') (ha:∃ o,h'.get? c=some o)
  (hr:Step NoW fr ι ι h h'→RepO G ι h' p o'):Inv G fr ι (σ.set i o') h'∧Step NoW fr ι ι h h':=by
 have own:Own ι c:=⟨p,List.mem_of_getElem? hp,hc⟩
 have S:Step NoW fr ι ι h h':=⟨⟨[],by simp,by simp⟩,λ b o e n f zz=>hs.1 b o (λ q=>n (q▸own)) f e,
  λ b hb zz m e=>hs.2 b hb m e,λ b o e=>by
   by_cases q:b=c
   ·clear hr hs hc hp hn I e o own o' p i
    subst q;exact ha
   ·by_cases hb:b∈fr
    ·obtain⟨⟨m,hm⟩,_⟩:=I.frames b hb
     refine ex32 (hs.2 b hb m hm) λ o' zz zz e' zz=>?_
     exact⟨o',e'⟩
    ·exact⟨o,hs.1 b o q hb e⟩⟩
 have hl:i < σ.length:=by rw [← I.len];exact (List.getElem?_eq_some_iff.mp hp).1
 refine⟨⟨by rw [List.length_set];exact I.len,λ j o q e1 e2=>?_,I.apart,I.new,λ b o e=>?_,?_,
  λ b hb=>⟨let ⟨m,e⟩:=(I.frames b hb).1;⟨m,S.ns b hb (λ w=>w.elim) m e⟩,(I.frames b hb).2⟩⟩,S⟩
 ·by_cases hij:i=j
  ·subst hij
   rw [List.getElem?_set_self hl] at e1
   cases e1
   rw [hp] at e2
   cases e2
   exact hr S
  ·rw [List.getElem?_set_ne hij] at e1
   have R:=I.at_ j o q e1 e2
   have ap:=I.apart i j p q hij hp e2
   have ap':=I.apart j i q p (Ne.symm hij) e2 hp
   have f1:q.1 ∉ fr:=I.ownFree ⟨q,List.mem_of_getElem? e2,.inl rfl⟩
   have f2:q.2 ∉ fr:=I.ownFree ⟨q,List.mem_of_getElem? e2,.inr rfl⟩
   have n1:q.1≠c:=by
    clear hr ha hs hp hn I e2 e1 f2 f1 R hl S own o' o
    rcases hc with rfl | rfl
    ·exact Ne.symm ap.1
    ·exact ap'.2.1
   have n2:q.2≠c:=by
    clear hr ha hs hp hn I e2 e1 o' n1 f2 f1 ap' R hl S own o
    rcases hc with rfl | rfl
    ·exact Ne.symm ap.2.1
    ·exact Ne.symm ap.2.2
   clear ha hp hn e2 e1 ap' ap own
   cases o with
   | list l=>
    obtain⟨e,hz,vs,hl,hr⟩:=R
    exact⟨e,hz,vs,hl.at λ o e=>hs.1 _ _ n1 f1 e,RepVs.step I S mildNo _ _ hr⟩
   | inst C fs=>
    obtain⟨h1,hz,es,n,h2,hr⟩:=R
    exact⟨hs.1 _ _ n1 f1 h1,hz,es,n,hs.1 _ _ n2 f2 h2,RepKv.step I S mildNo _ _ hr⟩
   | dict fs=>
    obtain⟨e,hz,kvs,⟨o,es,ep,h2,hc⟩,hk,hr⟩:=R
    exact⟨e,hz,kvs,⟨o,es,ep,hs.1 _ _ n1 f1 h2,hc⟩,hk,RepVs.step I S mildNo _ _ hr⟩
 ·have e':=I.base b o e
  refine hs.1 b o (λ q=>?_) (I.baseFree e) e'
  clear ha hs hn S own hr hl e' o'
  subst q
  have z:=I.new p (List.mem_of_getElem? hp)
  rcases hc with rfl | rfl
  ·rw [z.1] at e;cases e
  ·rw [z.2] at e;cases e
 ·clear ha hp S own hc hr hl o' p i
  cases fr with
  | nil=>exact absurd rfl hn
  | cons L r=>
   obtain⟨⟨m,e⟩,_,hz⟩:=I.frames L (.head _)
   exact Nat.le_of_lt (Nat.lt_of_le_of_lt hz (hs.2 L (.head _) m e).lt)
set_option tactic.hygienic true in
theorem part_of {a:AV} {v:Value} (x:RepV G ι h a v) {n d c:Nat} (e:cutOf n d a=some c):∃ k:Option Int,IsPart v k∧(c:Int)=(match k with | none=>(d:Int) | some i=>max 0 (min (if i < 0 then i + n else i) n)) ∧
  (k=none∧v = .none∨∃ i t,k=some i∧v = .int i t):=by
 unfold cutOf at e
 cases a<;>simp only [reduceCtorEq,Option.some.injEq] at e
 ·obtain rfl:=x;subst e;exact⟨none,.none,rfl,.inl ⟨rfl,rfl⟩⟩
 ·rename_i i
  obtain⟨t,rfl⟩:=x
  refine⟨some i,.int i t,?_,.inr ⟨i,t,rfl,rfl⟩⟩
  split at e
  ·simp only [Option.some.injEq] at e
   subst e
   dsimp only
   split<;>split<;>lia
  ·cases e
inductive SlcOf {α:Type} (l r:List α) (vl vh:Value):Prop
 | mk (kl kh:Option Int) (p1:IsPart vl kl) (p2:IsPart vh kh) (q1:kl=none∧vl = .none∨∃ i t,kl=some i∧vl = .int i t) (q2:kh=none∧vh = .none∨∃ i t,kh=some i∧vh = .int i t)
  (a b:Nat) (hs:sliceBounds kl kh none l.length=((a:Int),(b:Int),1)) (ha:a≤l.length) (hb:b≤l.length) (hr:r=(l.drop a).take (b - a)) (hi:strSliceIndices kl kh 1 l.length=(List.range (b - a)).map (a + ·))
set_option tactic.hygienic true in
theorem slice_of {α:Type} {l r:List α} {lo hi:AV} {vl vh:Value} (xl:RepV G ι h lo vl) (xh:RepV G ι h hi vh) (e:sliceL l lo hi=some r):
  SlcOf l r vl vh:=by
 unfold sliceL at e
 split at e
 ·rename_i a b ha hb
  cases e
  refine ex13 (part_of xl ha) λ kl p1 e1 q1=>?_
  refine ex13 (part_of xh hb) λ kh p2 e2 q2=>?_
  have le:∀ {d c:Nat} {k:Option Int},d≤l.length→(c:Int)=(match k with | none=>(d:Int) | some i=>max 0 (min (if i < 0 then i + l.length else i) l.length))→c≤l.length:=by
   intro d c k hd e
   cases k with
   | none=>simp only at e;lia
   | some i=>simp only at e;omega
  have g1:=le (Nat.zero_le _) e1
  have g2:=le (Nat.le_refl _) e2
  have hb:sliceBounds kl kh none l.length=((a:Int),(b:Int),1):=by
   refine rwg (e1 ..) ?_
   refine rwg (e2 ..) ?_
   clear xh xl g2 g1 le hb ha q2 e2 p2 q1 e1 p1 vh vl hi lo b a
   cases kl<;>cases kh<;>simp [sliceBounds]
  refine⟨kl,kh,p1,p2,q1,q2,a,b,hb,g1,g2,List.drop_take,?_⟩
  rw [← sliceRange_one]
  have:strSliceIndices kl kh 1 l.length=sliceRange (sliceBounds kl kh none l.length).1 (sliceBounds kl kh none l.length).2.1 1:=by
   clear xh xl g2 g1 le hb ha q2 e2 p2 q1 e1 p1 vh vl lo a
   cases kl<;>cases kh<;>simp [sliceBounds,strSliceIndices]
  refine rwg (this ..) ?_
  refine rwg (hb ..) rfl
 ·cases e
set_option tactic.hygienic true in
theorem txt_slice {x r:List Nat} {kl kh:Option Int} {a b:Nat} (ha:a≤x.length) (hb:b≤x.length) (hr:r=(x.drop a).take (b - a)) (e:strSliceIndices kl kh 1 x.length=(List.range (b - a)).map (a + ·)):
  Txt.slice ⟨x.toArray⟩ kl kh=⟨r.toArray⟩:=by
 unfold Txt.slice
 have hl:Str.length ⟨x.toArray⟩=x.length:=List.size_toArray
 refine rwg (hl ..) ?_
 refine rwg (e ..) ?_
 simp only [List.length_map,List.length_range]
 split
 ·rename_i q
  simp only [Bool.and_eq_true,beq_iff_eq] at q
  have a0:a=0:=by lia
  have b0:b=x.length:=by lia
  clear e hb ha hl q kh kl
  subst a0 b0
  rw [hr];simp
 ·rw [hr]
  have:=pick_run x.toArray a (b - a)
  simp only at this
  rw [this]
theorem sub_slice (slice:Expr) (hs:∃ lo hi p,slice = .Slice lo hi none p) (o i:Value):subscripted slice false o i=operate [i,o] (getItem o i):=by
 obtain⟨lo,hi,p,rfl⟩:=hs
 rfl
theorem cut_le {α:Type} {l:List α} {a n m:Nat} (h:l.length≤m):((l.drop a).take n).length≤m:=by
 rw [List.length_take,List.length_drop];exact Nat.le_trans (Nat.min_le_right ..) (Nat.le_trans (Nat.sub_le ..) h)
theorem len_fits {n:Nat} (h:n≤maxLen):n≤sizeLine:=Nat.le_trans h (Nat.le_trans (Nat.le_add_right _ _) maxLen_fits)
theorem slice_wp (hn:fr≠[]) {s:Shared} {r:Except AV AV} {σ':AH} (I:Inv G fr ι σ s.heap) {o lo hi:AV} {v vl vh:Value} (hv:RepV G ι s.heap o v) (hl:RepV G ι s.heap lo vl) (hh:RepV G ι s.heap hi vh)
  (e:sliceA o lo hi σ=some (r,σ')) (value slice:Expr) (hsl:∃ lo hi p,slice = .Slice lo hi none p) (E:Value→Shared→Prop):
  wpAny (model G.prog G.w) A (subscriptTail value slice v (.ref s.heap.objs.size)) (OkS G fr ι s (RV G) r σ') E { s with heap:=s.heap.push { cls:=.type "slice",data:=.fields #[vl,vh,.none] } }:=by
 cases o with
 | obj i=>
  obtain⟨p,hp,rfl⟩:=hv
  obtain⟨l,ho,e⟩:=bind_lst e
  obtain⟨rl,hq,e⟩:=bind_opt e
  unfold newO at e
  cases e
  obtain⟨hz,vs,i1,r1⟩:=I.lst ho hp
  obtain⟨kl,kh,p1,p2,-,-,a,b,hb,-,-,rfl,-⟩:=slice_of hl hh hq
  have hlen:=r1.length
  refine tail_any (Heap.IsList.typeIs (s:={ s with heap:=s.heap.push { cls:=.type "slice",data:=.fields #[vl,vh,.none] } }) (i1.push _)) list_getitem_lookup
   (wpAny_getItem_list_slice (i1.push _) (Heap.IsSliceOf.new ..) p1 p2 .none (λ q=>nomatch q) ?_ (by rw [List.size_toArray,hlen];exact len_fits hz)) (sub_slice _ hsl _ _)
  rw [show slicePick (List.toArray vs) kl kh none=List.toArray ((vs.drop a).take (b - a)) from kmk_pick_nat (a:=a) (b:=b) _ (by rw [List.size_toArray,hlen];exact hb)]
  refine⟨_,rfl,okP_list (tk:=s.toks) I hn (.of λ b o e=>Heap.get?_push_of_some _ (Heap.get?_push_of_some _ e)) ?_ ⟨0,Heap.get?_push_size _ rfl⟩ ((r1.drop a).take (b - a)) (cut_le hz)⟩
  rw [Heap.size_push];exact Heap.get?_none_of_le (Nat.le_succ _)
 | str x=>
  obtain⟨hz,t,rfl⟩:=hv
  refine ex12 (bind_opt e) λ rl hq e=>?_
  cases e
  obtain⟨kl,kh,-,-,p1,p2,a,b,-,ha,hb',hr,hi⟩:=slice_of hl hh hq
  have hle:rl.length≤maxLen:=hr▸cut_le hz
  have ht:=txt_slice ha hb' hr hi
  clear hr hi ha hb' hq hl hh
  have hk:KeptH (λ h'=>∀ b o,s.heap.get? b=some o→h'.get? b=some o):=λ h ob k b o e=>Heap.get?_push_of_some _ (k b o e)
  have hsz:Str.length ⟨x.toArray⟩≤sizeLine:=len_fits (by show (List.toArray x).size≤_;rw [List.size_toArray];exact hz)
  have fin:∀ (h':Heap) t' k,(∀ b o,s.heap.get? b=some o→h'.get? b=some o)→OkS G fr ι s (RV G) (.ok (.str rl)) σ (.str (Txt.slice ⟨x.toArray⟩ kl kh) t') { s with heap:=h',toks:=k }:=by
   intro h' t' k kp
   obtain⟨I',S⟩:=I.keeps hn (.of kp)
   exact⟨_,rfl,h',k,ι,rfl,S,I',hle,t',by rw [ht]⟩
  clear I hn ht hle b a hz
  rcases p1 with ⟨rfl,rfl⟩ | ⟨i1,t1,rfl,rfl⟩<;>rcases p2 with ⟨rfl,rfl⟩ | ⟨i2,t2,rfl,rfl⟩
  ·exact tail_of_ItemOn (SBH.sliceItem_nn hk (λ zz zz e=>e) fin hsz) (sub_slice _ hsl _ _) (tempGo_str _ _ _)
  ·exact tail_of_ItemOn (SBH.sliceItem_ns hk (λ zz zz e=>e) fin hsz) (sub_slice _ hsl _ _) (tempGo_str _ _ _)
  ·exact tail_of_ItemOn (SBH.sliceItem_sn hk (λ zz zz e=>e) fin hsz) (sub_slice _ hsl _ _) (tempGo_str _ _ _)
  ·exact tail_of_ItemOn (SBH.sliceItem_ss hk (λ zz zz e=>e) fin hsz) (sub_slice _ hsl _ _) (tempGo_str _ _ _)
 | _=>cases e
end
end
section
open PySem PySem.W PySem.Calls PyProof.Rows
set_option tactic.hygienic true in
theorem snap_nodup (base h:Heap) (L:Addr):((snap base h L).map (·.1)).Nodup:=by
 have key:∀ l:List Nat,l.Nodup→((l.filterMap λ a=>if a=L then none else match base.get? a with
 | some zz=>none
 | none=>(h.get? a).map λ o=>(a,o)).map (·.1)).Nodup∧∀ x∈((l.filterMap λ a=>if a=L then none else match base.get? a with
 | some zz=>none
 | none=>(h.get? a).map λ o=>(a,o)).map (·.1)),x∈l:=by
  intro l
  induction l with
  | nil=>intro _;exact⟨by simp,by simp⟩
  | cons a r ih=>
   intro hn
   have h1:=(List.nodup_cons.mp hn).1
   have h2:=(List.nodup_cons.mp hn).2
   obtain⟨i1,i2⟩:=ih h2
   refine rwg (List.filterMap_cons ..) ?_
   split
   ·exact⟨i1,λ x hx=>.tail _ (i2 x hx)⟩
   ·rename_i p hp
    have hpa:p.1=a:=by
     split at hp
     ·cases hp
     ·split at hp
      ·cases hp
      ·refine ex12 (Option.map_eq_some_iff.mp hp) λ o zz e=>?_
       refine rwb (e ..) rfl
    refine rwg (List.map_cons ..) ?_
    refine rwg (hpa ..) ?_
    refine⟨List.nodup_cons.mpr ⟨λ q=>h1 (i2 _ q),i1⟩,λ x hx=>?_⟩
    clear ih hpa hp p hn i1 h2 h1
    rcases List.mem_cons.mp hx with rfl | hx
    ·exact .head _
    ·exact .tail _ (i2 x hx)
 exact (key _ List.nodup_range).1
theorem split_at {l:List (Addr×Obj)} {a:Addr} {o:Obj} (hn:(l.map (·.1)).Nodup) (hm:(a,o)∈l):∃ pre post,l=pre++(a,o) :: post∧(∀ p∈pre,p.1≠a)∧∀ p∈post,p.1≠a:=by
 refine ex21 (List.append_of_mem hm) λ pre post rr2=>?_
 clear hm
 subst rr2
 rw [List.map_append,List.map_cons,List.nodup_append] at hn
 refine ex03 (hn) λ zz h2 h3=>?_
 refine⟨pre,post,rfl,λ p hp q=>?_,λ p hp q=>?_⟩
 ·exact h3 p.1 (List.mem_map_of_mem hp) a (.head _) q
 ·exact (List.nodup_cons.mp h2).1 (List.mem_map.mpr ⟨p,hp,q⟩)
section
variable {G:Gd} {A:Around} {fr:List Addr} {ι:Img} {σ:AH} {h h':Heap} {L:Addr}
theorem kv_set {x:Str} {a:AV} {u:Value} {tk:Tok} (ha:RepV G ι h a u):∀ {fs:List (Str×AV)} {es:List DictEntry},RepKv G ι h fs es→RepKv G ι h (kvSet fs x a) (W.putL x (PyData.keyHash G.w.params x) (.str x tk) u es)
 | [],[],zz=>⟨⟨tk,rfl⟩,rfl,ha,trivial⟩
 | (y,b) :: r,e :: es,R=>by
  obtain⟨⟨t,hk⟩,hh,hv,hr⟩:=R
  unfold kvSet W.putL
  by_cases hxy:y=x
  ·rw [if_pos hxy,if_pos (by rw [hk,hxy];simp [Value.isStr])]
   exact⟨⟨t,by rw [hk,hxy]⟩,by rw [hh,hxy],ha,hr⟩
  ·rw [if_neg hxy,if_neg (by rw [hk];simpa [Value.isStr] using hxy)]
   exact⟨⟨t,hk⟩,hh,hv,kv_set ha hr⟩
 | [],_ :: _,R=>R.elim
 | _ :: _,[],R=>R.elim
theorem kvSet_len (x:Str) (a:AV):∀ fs:List (Str×AV),(kvSet fs x a).length≤fs.length + 1
 | []=>by simp [kvSet]
 | (y,b) :: r=>by
  unfold kvSet
  split
  ·simp
  ·simp only [List.length_cons];have:=kvSet_len x a r;lia
theorem unit_done {s:Shared} {tk:Nat} {σ':AH} (I:Inv G fr ι σ' h') (S:Step NoW fr ι ι s.heap h'):
  OkS G fr ι s (λ (_:Unit) (_:Unit) _ _=>True) (.ok ()) σ' () { s with heap:=h',toks:=tk }:=⟨(),rfl,h',tk,ι,rfl,S,I,trivial⟩
theorem news_but {pre post:List (Addr×Obj)} {dx:Addr} {o o':Obj} {m:Str→Option Value} (I:Inv G fr ι σ h) (hL:L∈fr) (hdx:dx ∉ fr) (F:Fr G.base L h m) (F':Fr G.base L h' m)
  (hsp:snap G.base h L=pre++(dx,o) :: post) (N':News G.base L h' (pre++(dx,o') :: post)):KeptBut dx fr h h':=by
 have key:∀ b q,b≠dx→b≠L→h.get? b=some q→h'.get? b=some q:=λ b q nd n e=>by
  cases hq:G.base.get? b with
  | some o'=>
   have:=I.base b o' hq
   rw [e] at this;cases this
   exact F'.keep b q hq
  | none=>
   have hm:(b,q)∈snap G.base h L:=mem_snap.mpr ⟨n,hq,e⟩
   rw [hsp] at hm
   refine (N' (b,q) ?_).1
   clear N' hsp F' F hdx hL I e n m
   rcases List.mem_append.mp hm with hm | hm
   ·exact List.mem_append_left _ hm
   ·rcases List.mem_cons.mp hm with hm | hm
    ·cases hm;exact absurd rfl nd
    ·exact List.mem_append_right _ (.tail _ hm)
 refine⟨λ b q nd n e=>key b q nd (λ z=>n (z▸hL)) e,λ b hb m' e=>?_⟩
 by_cases hbL:b=L
 ·clear N' hsp hdx hL I hb key o' o dx post pre
  subst hbL
  rw [← Ns_eq F.ns e];exact F'.ns
 ·refine ex32 (e) λ o1 es ep ho r=>?_
  exact⟨o1,es,ep,key b o1 (λ z=>hdx (z▸hb)) hbL ho,r⟩
theorem setAttr_snd (K:Gok G) (hL:∃ L,L∈fr) (o a:AV) (v w:Value) (x:Str):
  Snd G A fr (λ ι h=>RepV G ι h o v∧RepV G ι h a w) (setAttr v x w) (setAttrA G.T o x a) (λ zz zz zz zz=>True):=by
 cases o with
 | obj i=>
  intro ι σ s r σ' ht I hp e
  obtain⟨hv,hw⟩:=hp
  refine ex12 (getO_bind e) λ ob ho e=>?_
  cases ob with
  | list=>cases e
  | dict=>cases e
  | inst C fs=>
   by_cases hf:G.T.fld C x=true∧fs.length≤20
   ·cases (congrFun (if_pos hf) σ).symm.trans e
    refine ex12 (hv) λ p hp rr2=>?_
    clear e ht hv
    subst rr2
    obtain⟨_,es,n,IA,h2,hr⟩:=I.inst ho hp
    obtain⟨L,hL⟩:=hL
    obtain⟨m,F⟩:=I.frOf hL
    refine ex06 (K.fld C x hf.1) λ f1 f2 f3 f4 f5 f6=>?_
    have own2:Own ι p.2:=⟨p,List.mem_of_getElem? hp,.inr rfl⟩
    have nf:p.2 ∉ fr:=I.ownFree own2
    have hm:(p.2,dictOf es n)∈snap G.base s.heap L:=mem_snap.mpr ⟨λ q=>nf (q▸hL),(I.new p (List.mem_of_getElem? hp)).2,h2⟩
    refine ex23 (split_at (snap_nodup _ _ _) hm) λ pre post hsp g1 g2=>?_
    have N:=news_snap G.base s.heap L
    rw [hsp] at N
    have hlen:=kv_len hr
    have hls:(W.getL x es).isSome=true:=by
     cases hg:kvGet fs x with
     | none=>rw [kv_miss hr hg];rfl
     | some b=>obtain⟨u,hu,_⟩:=kv_get hr hg;rw [hu];rfl
    have hput:∀ tk,RepKv G ι s.heap (kvSet fs x a) (W.putL x (PyData.keyHash G.w.params x) (.str x tk) w es):=λ tk=>kv_set hw hr
    have hl2:=kvSet_len x a fs
    refine set_plain (G.hK.keeps F.keep) IA f4 (osa_dict (s:={ s with toks:=s.toks + 1 }) F N (G.hK.keeps F.keep) IA rfl f5 f6 f2 hls g1 g2 (by rw [putName_dict]) rfl ?_ λ h' F' N'=>?_)
    ·rw [kv_len (hput (s.toks + 1))];lia
    ·have kb:=news_but I hL nf F F' hsp N'
     have hd':=(N' (p.2,_) (List.mem_append_right _ (.head _))).1
     obtain⟨I',S⟩:=I.upd' (by rintro rfl;cases hL) hp (.inr rfl) kb ⟨_,hd'⟩ (o':=.inst C (kvSet fs x a)) λ S=>by
      have h1:=(I.at_ i _ p ho hp).1
      have own1:Own ι p.1:=⟨p,List.mem_of_getElem? hp,.inl rfl⟩
      have ne:p.1≠p.2:=λ q=>by
       rw [q,h2] at h1;cases h1
      exact⟨kb.1 _ _ ne (I.ownFree own1) h1,by lia,_,_,hd',RepKv.step I S mildNo _ _ (hput _)⟩
     exact unit_done I' S
   ·exact no_none ((congrFun (if_neg hf) σ).symm.trans e)
 | _=>exact .fail
theorem kv_put {ι:Img} {h:Heap} (x:Str) (a:AV) (u:Value) (ha:RepV G ι h a u):∀ {fs:List (Str×AV)} {kvs:List (Str×Value)},(kvs.map (·.1)).Nodup→(kvGet fs x).isSome=true→fs.map (·.1)=kvs.map (·.1)→RepVs G ι h (fs.map (·.2)) (kvs.map (·.2)) →
  (kvSet fs x a).map (·.1)=(kvs.map (λ kv=>if kv.1=x then (kv.1,u) else kv)).map (·.1)∧RepVs G ι h ((kvSet fs x a).map (·.2)) ((kvs.map (λ kv=>if kv.1=x then (kv.1,u) else kv)).map (·.2))∧kvs.any (λ kv=>kv.1=x)=true∧(kvSet fs x a).length=fs.length:=by
 intro fs
 induction fs with
 | nil=>intro kvs _ h;cases h
 | cons q r ih=>
  obtain⟨y,b⟩:=q
  intro kvs nd hs hk hr
  cases kvs with
  | nil=>cases hk
  | cons z kvs=>
   obtain⟨y',c⟩:=z
   have ey:y=y':=(List.cons.inj hk).1
   replace hk:r.map (·.1)=kvs.map (·.1):=(List.cons.inj hk).2
   subst ey
   obtain⟨n1,nd⟩:=List.nodup_cons.mp (show (y :: kvs.map (·.1)).Nodup from nd)
   obtain⟨hc,hr⟩:=hr
   have em:∀ kv0:Str×Value,(if y=x then (y,u) else (y,c))=kv0→((y,c) :: kvs).map (λ kv=>if kv.1=x then (kv.1,u) else kv)=kv0 :: kvs.map (λ kv=>if kv.1=x then (kv.1,u) else kv):=λ zz e=>congrArg (· :: _) e
   by_cases hxy:y=x
   ·clear ih hs
    subst hxy
    have same:kvs.map (λ kv=>if kv.1=y then (kv.1,u) else kv)=kvs:=by
     conv=>rhs;rw [← List.map_id kvs]
     apply List.map_congr_left
     intro kv hkv
     rw [if_neg]
     ·rfl
     ·intro q;exact n1 (q▸List.mem_map_of_mem hkv)
    have e1:kvSet ((y,b) :: r) y a=(y,a) :: r:=if_pos rfl
    refine rwg (e1 ..) ?_
    refine rwg (em _ (if_pos rfl) ..) ?_
    refine rwg (same ..) ?_
    exact⟨congrArg (y :: ·) hk,⟨ha,hr⟩,by simp,rfl⟩
   ·refine ex04 (ih nd ((congrArg Option.isSome (if_neg hxy)).symm.trans hs) hk hr) λ j1 j2 j3 j4=>?_
    have e1:kvSet ((y,b) :: r) x a=(y,b) :: kvSet r x a:=if_neg hxy
    refine rwg (e1 ..) ?_
    refine rwg (em _ (if_neg hxy) ..) ?_
    exact⟨congrArg (y :: ·) j1,⟨hc,j2⟩,by rw [List.any_cons,j3,Bool.or_true],congrArg (· + 1) j4⟩
theorem setItem_list (i0:Nat) (k:Int) (a:AV) (v w u:Value):
  Snd G A fr (λ ι h=>RepV G ι h (.obj i0) v∧RepV G ι h (.int k) w∧RepV G ι h a u) (setItem v w u) (setItemA (.obj i0) (.int k) a) (λ zz zz zz zz=>True):=by
 intro ι σ s r σ' ht I hp e
 obtain⟨⟨p,hp,rfl⟩,⟨t,rfl⟩,hu⟩:=hp
 refine ex12 (getO_bind e) λ ob ho e=>?_
 cases ob with
 | inst=>cases e
 | dict=>cases e
 | list l=>
  by_cases hk:0≤k∧k < l.length
  ·cases (congrFun (if_pos hk) σ).symm.trans e
   obtain⟨hpe,hz,vs,⟨n,i1⟩,r1⟩:=I.plst ho hp
   have hlen:=r1.length
   have hm:maxLen=1000000:=rfl
   refine ki_setAt i1 hk.1 (by lia) (by rw [List.size_toArray];lia) ?_
   have i1':=PySem.IsL.update i1 (·.setIfInBounds k.toNat u)
   obtain⟨I',S⟩:=I.upd hp (.inl rfl) (Heap.SameBut.update ..) ⟨_,i1'⟩ (o':=.list (l.set k.toNat a)) λ S=>⟨hpe,by simpa using hz,vs.set k.toNat u,⟨_,by simpa using i1'⟩,RepVs.step I S mildNo _ _ (r1.set _ hu)⟩
   exact unit_done (tk:=s.toks) I' S
  ·exact no_none ((congrFun (if_neg hk) σ).symm.trans e)
theorem setItem_dict (i0:Nat) (x:List Nat) (a:AV) (v w u:Value):
  Snd G A fr (λ ι h=>RepV G ι h (.obj i0) v∧RepV G ι h (.str x) w∧RepV G ι h a u) (setItem v w u) (setItemA (.obj i0) (.str x) a) (λ zz zz zz zz=>True):=by
 intro ι σ s r σ' ht I hp e
 obtain⟨⟨p,hp,rfl⟩,⟨_,t,rfl⟩,hu⟩:=hp
 refine ex12 (getO_bind e) λ ob ho e=>?_
 cases ob with
 | inst=>cases e
 | list=>cases e
 | dict fs=>
  by_cases hk:(kvGet fs ⟨x.toArray⟩).isSome=true
  ·cases (congrFun (if_pos hk) σ).symm.trans e
   obtain⟨hpe,hz,kvs,hd,hks,hr⟩:=I.at_ i0 _ p ho hp
   have hlen:kvs.length=fs.length:=by have:=congrArg List.length hks;simpa using this.symm
   refine wpAny_setItem_pairs (strKind_is G.prog G.w _ t) hd (λ h' hd' hs=>?_) (by rw [hlen,sizeLine_eq];lia)
   have nd:(kvs.map (·.1)).Nodup:=by obtain⟨_,_,_,_,_,_,_,_,nd⟩:=hd;exact nd
   refine ex04 (kv_put ⟨x.toArray⟩ a u hu nd hk hks hr) λ j1 j2 j3 j4=>?_
   have hst:stored kvs ⟨x.toArray⟩ u=kvs.map (λ kv=>if kv.1=⟨x.toArray⟩ then (kv.1,u) else kv):=if_pos j3
   rw [hst] at hd'
   obtain⟨I',S⟩:=I.upd hp (.inl rfl) hs (by obtain⟨o,es,ep,ho,_⟩:=hd';exact⟨o,ho⟩) (o':=.dict (kvSet fs ⟨x.toArray⟩ a)) λ S=>⟨hpe,by rw [j4];exact hz,_,hd',j1,RepVs.step I S mildNo _ _ j2⟩
   exact unit_done (tk:=s.toks + 1) I' S
  ·exact no_none ((congrFun (if_neg hk) σ).symm.trans e)
theorem setItem_snd (o i a:AV) (v w u:Value):
  Snd G A fr (λ ι h=>RepV G ι h o v∧RepV G ι h i w∧RepV G ι h a u) (setItem v w u) (setItemA o i a) (λ zz zz zz zz=>True):=by
 cases o with
 | obj i0=>cases i with
  | int k=>exact setItem_list i0 k a v w u
  | str x=>exact setItem_dict i0 x a v w u
  | _=>exact .fail
 | _=>exact .fail
end
end
section
open PySem PySem.W PySem.Calls PyProof.Rows PyProof.Rows.LSm
section
variable {G:Gd} {A:Around} {fr:List Addr} {ι:Img} {σ:AH} {h h':Heap} {d:Nat}
theorem reps0 {ws:List Value} (x:RepVs G ι h [] ws):ws=[]:=by
 cases ws with
 | nil=>rfl
 | cons=>exact False.elim x
theorem repsC {a:AV} {l:List AV} {ws:List Value} (x:RepVs G ι h (a :: l) ws):∃ v vs,ws=v :: vs∧RepV G ι h a v∧RepVs G ι h l vs:=by
 cases ws with
 | nil=>exact False.elim x
 | cons v vs=>exact⟨v,vs,rfl,x.1,x.2⟩
theorem reps1 {a:AV} {ws:List Value} (x:RepVs G ι h [a] ws):∃ v,ws=[v]∧RepV G ι h a v:=by
 refine ex23 (repsC x) λ v vs rr2 h1 h2=>?_
 subst rr2
 rw [reps0 h2];exact⟨v,rfl,h1⟩
theorem reps2 {a b:AV} {ws:List Value} (x:RepVs G ι h [a,b] ws):∃ v w,ws=[v,w]∧RepV G ι h a v∧RepV G ι h b w:=by
 refine ex23 (repsC x) λ v vs rr2 h1 h2=>?_
 subst rr2
 clear x
 refine ex12 (reps1 h2) λ w rr1 h3=>?_
 clear h2
 subst rr1
 exact⟨v,w,rfl,h1,h3⟩
theorem bools_of {l:List AV} {bs:List Bool}:∀ {vs:List Value},RepVs G ι h l vs→boolsOf l=some bs→BoolsAre vs bs:=by
 induction l generalizing bs with
 | nil=>intro vs x e;cases e;rw [reps0 x];exact .nil
 | cons a r ih=>
  intro vs x e
  refine ex23 (repsC x) λ v ws rr2 h1 h2=>?_
  subst rr2
  clear x
  cases a with
  | bool b=>
   obtain⟨bs',hb,rfl⟩:=Option.map_eq_some_iff.mp e
   obtain rfl:=h1
   exact .cons _ (ih h2 hb)
  | _=>exact no_none e
theorem strs_of {l:List AV} {ts:List (List Nat)}:∀ {vs:List Value},RepVs G ι h l vs→strsOf l=some ts→StrsAre vs (ts.map λ t=>⟨t.toArray⟩):=by
 induction l generalizing ts with
 | nil=>intro vs x e;cases e;rw [reps0 x];exact .nil
 | cons a r ih=>
  intro vs x e
  refine ex23 (repsC x) λ v ws rr2 h1 h2=>?_
  subst rr2
  clear x
  cases a with
  | str x=>
   obtain⟨bs',hb,rfl⟩:=Option.map_eq_some_iff.mp e
   obtain⟨_,t,rfl⟩:=h1
   exact .cons _ _ (ih h2 hb)
  | _=>exact no_none e
inductive Knd (T:Tb) (σ:AH):AV→Value→Prop
 | str (s:List Nat):Knd T σ (.str s) (.type "str")
 | lst (i:Nat) (l:List AV) (h:σ[i]? = some (.list l)):Knd T σ (.obj i) (.type "list")
 | ins (i D:Nat) (fs:List (Str×AV)) (h:σ[i]? = some (.inst D fs)) (hD:T.inst D=true):Knd T σ (.obj i) (.ref D)
theorem kit_of (K:Gok G) (I:Inv G fr ι σ h) {a:AV} {v t:Value} (x:RepV G ι h a v) (k:Knd G.T σ a t):∃ (H:Heap→Prop),H h∧KitX G.K v t H∧v≠.builtin "__main__.__loader__#opaque":=by
 cases k with
 | str s=>
  obtain⟨_,t,rfl⟩:=x
  exact⟨_,trivial,kitx_str,λ q=>nomatch q⟩
 | lst i l ho=>
  obtain⟨p,hp,rfl⟩:=x
  obtain⟨_,_,vs,⟨n,hl⟩,_⟩:=I.plst ho hp
  exact⟨_,⟨_,hl,rfl⟩,kitx_list,λ q=>nomatch q⟩
 | ins i D fs ho hD=>
  obtain⟨p,hp,rfl⟩:=x
  obtain⟨_,es,n,IA,_,_⟩:=I.inst ho hp
  refine ex04 (K.instX D hD) λ x1 x2 x3 x4=>?_
  exact⟨_,IA,kitx_own x1 x2 x3 K.kcls.1 K.kcls.2 x4,λ q=>nomatch q⟩
theorem ite_P {α:Type} {P:α→Prop} {c:Prop} [Decidable c] {x y:α} (h1:c→P x) (h2:¬ c→P y):P (if c then x else y):=by
 by_cases h:c
 ·rw [if_pos h];exact h1 h
 ·rw [if_neg h];exact h2 h
theorem instOne_cases {T:Tb} {P:AV→AV→Option Bool→Prop} (hf:∀ {a c},P a c none) (h1:∀ s,P (.str s) (.bi .str) (some true)) (h2:∀ s,P (.str s) (.bi .list) (some false)) (h3:∀ i l,σ[i]? = some (.list l)→P (.obj i) (.bi .str) (some false)) (h4:∀ i l,σ[i]? = some (.list l)→P (.obj i) (.bi .list) (some true))
  (h5:∀ i C D fs,T.inst C=true→σ[i]? = some (.inst D fs)→T.inst D=true→P (.obj i) (.val C) (some (decide (D=C)))):∀ a c,P a c (instOne T σ a c):=by
 intro a c
 have lst:∀ {x:AV} (i:Nat) (r:Bool),(∀ l,σ[i]? = some (.list l)→P (.obj i) x (some r))→P (.obj i) x (match σ[i]? with | some (.list zz)=>some r | _=>none):=by
  intro x i r k
  cases hl:σ[i]? with
  | none=>exact hf
  | some o=>cases o with
   | list l=>exact k l hl
   | _=>exact hf
 cases a with
 | str s=>cases c with
  | bi x=>cases x with
   | str=>exact h1 s
   | list=>exact h2 s
   | _=>exact hf
  | _=>exact hf
 | obj i=>cases c with
  | bi x=>cases x with
   | str=>exact lst i false (h3 i)
   | list=>exact lst i true (h4 i)
   | _=>exact hf
  | val C=>
   refine ite_P (P:=P (.obj i) (.val C)) (λ hC=>?_) λ zz=>hf
   cases hl:σ[i]? with
   | none=>exact hf
   | some o=>cases o with
    | inst D fs=>exact ite_P (P:=P (.obj i) (.val C)) (λ hD=>h5 i C D fs hC hl hD) λ zz=>hf
    | _=>exact hf
  | _=>exact hf
 | _=>exact hf
theorem one_of (K:Gok G) {a c:AV} {w t:Value} {b:Bool} (hc:RepV G ι h c w) (e:instOne G.T σ a c=some b) (ht:Knd G.T σ a t):kitOne G.K t w=some b:=by
 refine instOne_cases (P:=λ a c o=>o=some b→RepV G ι h c w→Knd G.T σ a t→kitOne G.K t w=some b) (λ e=>no_none e) ?_ ?_ ?_ ?_ ?_ a c e hc ht
 ·intro s e hc ht;cases e;cases ht;cases hc;exact K.bis.1
 ·intro s e hc ht;cases e;cases ht;cases hc;exact K.bis.2.1
 ·intro i l hl e hc ht
  cases e
  cases ht with
  | lst zz zy zx=>cases hc;exact K.bis.2.2.1
  | ins zz zy zx ho=>rw [hl] at ho;cases ho
 ·intro i l hl e hc ht
  cases e
  cases ht with
  | lst zz zy zx=>cases hc;exact K.bis.2.2.2
  | ins zz zy zx ho=>rw [hl] at ho;cases ho
 ·intro i C D fs hC hD hDi e hc ht
  cases e
  cases ht with
  | lst zz zy ho=>rw [hD] at ho;cases ho
  | ins zz zy zx ho zw=>
   rw [hD] at ho;cases ho
   obtain⟨rfl,_⟩:=hc
   exact K.inst _ _ hC hDi
theorem one_kind {a c:AV} {b:Bool} (e:instOne G.T σ a c=some b):∃ t,Knd G.T σ a t:=
 instOne_cases (P:=λ a zz o=>o=some b→∃ t,Knd G.T σ a t) (λ e=>no_none e) (λ s zz=>⟨_,.str s⟩) (λ s zz=>⟨_,.str s⟩) (λ i l h zz=>⟨_,.lst i l h⟩) (λ i l h zz=>⟨_,.lst i l h⟩) (λ i zz D fs zz h hD zz=>⟨_,.ins i D fs h hD⟩) a c e
theorem any_of (K:Gok G) {a:AV} {t:Value} (ht:Knd G.T σ a t):∀ {l:List AV} {ws:List Value} {b:Bool},RepVs G ι h l ws→instAny G.T σ a l=some b→kitAny G.K t ws=some b
 | [],ws,b,x,e=>by cases e;rw [reps0 x];rfl
 | c :: r,ws,b,x,e=>by
  refine ex23 (repsC x) λ v vs rr2 h1 h2=>?_
  subst rr2
  replace e:(match instOne G.T σ a c with | some true=>some true | some false=>instAny G.T σ a r | none=>none)=some b:=e
  unfold kitAny
  cases hq:instOne G.T σ a c with
  | none=>rw [hq] at e;cases e
  | some y=>
   rw [hq] at e
   rw [one_of K h1 hq ht]
   cases y with
   | true=>cases e;rfl
   | false=>exact any_of K ht h2 e
theorem isi_snd (K:Gok G) (a c:AV) (v w:Value):Snd G A fr (λ ι h=>RepV G ι h a v∧RepV G ι h c w) (call (.builtin "isinstance") [v,w]) (instA G.T a c) (RV G):=by
 intro ι σ s r σ' ht I hp e
 obtain⟨hv,hw⟩:=hp
 have X:G.K.In s.heap:=G.hK.keeps I.base
 have one:∀ {b:Bool},instOne G.T σ a c=some b→wpAny (model G.prog G.w) A (call (.builtin "isinstance") [v,w]) (OkS G fr ι s (RV G) (.ok (.bool b)) σ) (ErS G fr ι s (.ok (AV.bool b)) σ) s:=λ hb=>by
  obtain⟨t,hk⟩:=one_kind hb
  obtain⟨H,hH,Z,ne⟩:=kit_of K I hv hk
  exact kia_one Z X hH (one_of K hw hb hk) ne λ tk=>OkS.same I rfl
 have run:∀ {o:Option Bool},(match o with | some b=>some (.ok (AV.bool b),σ) | none=>none:Option (Except AV AV×AH))=some (r,σ')→∃ b,o=some b∧r = .ok (AV.bool b)∧σ=σ':=λ {o} e=>by
  cases o with
  | none=>cases e
  | some b=>cases e;exact⟨b,rfl,rfl,rfl⟩
 refine ex13 (run e) λ b hb rr2 rr3=>?_
 subst rr2
 subst rr3
 clear run e ht
 cases c with
 | tup l=>cases l with
  | nil=>cases hb
  | cons c0 l0=>
   have hk:∃ t,Knd G.T σ a t:=by
    replace hb:(match instOne G.T σ a c0 with | some true=>some true | some false=>instAny G.T σ a l0 | none=>none)=some b:=hb
    cases hq:instOne G.T σ a c0 with
    | none=>rw [hq] at hb;cases hb
    | some y=>exact one_kind hq
   obtain⟨t,hk⟩:=hk
   refine ex13 (kit_of K I hv hk) λ H hH Z ne=>?_
   obtain⟨x,vs,rfl,⟨⟨cls,dd,data,sl⟩,ho,hc,n,hd⟩,hl,_⟩:=hw
   cases hc
   cases hd
   exact kia_tup Z X hH ho (any_of K hk hl hb) ne λ tk=>OkS.same I rfl
 | _=>exact one hb
end
theorem intw_all:∀ p∈intWords,PySem.intText? ⟨p.1.toArray⟩=some p.2∧p.1.length≤640:=by
 intro p hp
 simp only [intWords,List.mem_cons,List.not_mem_nil,or_false] at hp
 rcases hp with rfl | rfl | rfl | rfl | rfl<;>exact⟨by decide +kernel,by decide⟩
set_option tactic.hygienic true in
theorem lookW_mem:∀ {l:List (List Nat×Int)} {s:List Nat} {n:Int},lookW l s=some n→(s,n)∈l
 | (x,v) :: r,s,n,e=>by
  unfold lookW at e
  split at e
  ·rename_i h;cases e;rw [h];exact .head _
  ·exact .tail _ (lookW_mem e)
 | [],zz,zy,e=>by cases e
set_option tactic.hygienic true in
theorem lookB_mem:∀ {l:List (List Nat×Bool)} {s:List Nat} {n:Bool},lookB l s=some n→(s,n)∈l
 | (x,v) :: r,s,n,e=>by
  unfold lookB at e
  split at e
  ·rename_i h;cases e;rw [h];exact .head _
  ·exact .tail _ (lookB_mem e)
 | [],zz,zy,e=>by cases e
theorem digw_all:∀ p∈digWords,Txt.isdigit ⟨p.1.toArray⟩=p.2:=by
 intro p hp
 simp only [digWords,List.mem_cons,List.not_mem_nil,or_false] at hp
 rcases hp with rfl | rfl | rfl | rfl | rfl | rfl | rfl | rfl | rfl<;>decide +kernel
theorem rep_all:∀ s∈bareWords,Txt.replace ⟨s.toArray⟩ (nm "-") (nm "")=⟨(s.filter (·≠45)).toArray⟩∧s.length≤100:=by
 intro p hp
 simp only [bareWords,List.mem_cons,List.not_mem_nil,or_false] at hp
 rcases hp with rfl | rfl | rfl | rfl | rfl | rfl | rfl | rfl | rfl<;>decide +kernel
theorem find_one:Txt.find ⟨[10].toArray⟩ ⟨[10].toArray⟩=0:=by decide +kernel
theorem find_two:Txt.find ⟨[32,13,10,32].toArray⟩ ⟨[10].toArray⟩=2:=by decide +kernel
section
variable {G:Gd} {A:Around} {fr:List Addr} {ι:Img} {σ:AH} {h h':Heap} {d:Nat}
theorem join_nil_cps:∀ ts:List Str,(Str.join ⟨#[]⟩ ts).cps.toList=(ts.map λ t=>t.cps.toList).flatten
 | []=>rfl
 | [x]=>by show x.cps.toList=_;simp
 | x :: y :: r=>by
  have ih:=join_nil_cps (y :: r)
  show (x++(⟨#[]⟩:Str)++Str.join ⟨#[]⟩ (y :: r)).cps.toList=_
  have:∀ a b:Str,(a++b).cps=a.cps++b.cps:=λ zz zz=>rfl
  refine rwg (this ..) ?_
  refine rwg (this ..) ?_
  refine rwg (Array.toList_append ..) ?_
  refine rwg (Array.toList_append ..) ?_
  refine rwg (ih ..) ?_
  simp
theorem callB_cases {T:Tb} {P:BI→List AV→PM AV→Prop} (hf:∀ {b vs},P b vs PM.fail)
  (h1:∀ i,P .len [.obj i] (lsO i>>=λ l=>pure (.int l.length))) (h2:∀ x,P .len [.str x] (pure (.int x.length))) (h3:∀ l,P .len [.fl l] (pure (.int l.length))) (h4:∀ a b,P .max [.int a,.int b] (pure (.int (if a < b then b else a))))
  (h5:∀ a,P .int [.int a] (pure (.int a))) (h6:∀ b,P .int [.bool b] (pure (.int (if b then 1 else 0)))) (h7:∀ x,P .int [.str x] (PM.ofOpt ((lookW intWords x).map .int))) (h8:∀ v c,P .isinstance [v,c] (instA T v c))
  (h9:∀ i,P .all [.obj i] (lsO i>>=λ l=>PM.ofOpt (boolsOf l)>>=λ bs=>pure (.bool (bs.all id)))) (h10:∀ a,P .chr [.int a] (if a=5∨a=97 then pure (.str [a.toNat]) else PM.fail)) (h11:∀ l,P .tuple [.tup l] (pure (.tup l)))
  (h12:∀ i,P .list [.obj i] (lsO i>>=λ l=>newO (.list l))) (h13:∀ b,P .range [.int b] (if smallI b=true then pure (.rng 0 b) else PM.fail))
  (h14:∀ a b,P .range [.int a,.int b] (if smallI a=true∧smallI b=true then pure (.rng a b) else PM.fail)):∀ b vs,P b vs (callB T b vs):=by
 intro b vs
 cases vs with
 | nil=>cases b<;>exact hf
 | cons v vs=>
  cases b
  case isinstance=>
   cases vs with
   | nil=>exact hf
   | cons w vs=>
    cases vs with
    | nil=>exact h8 _ _
    | cons zz zy=>exact hf
  case max=>
   cases v<;>try exact hf
   cases vs with
   | nil=>exact hf
   | cons w vs=>
    cases w<;>try exact hf
    cases vs with
    | nil=>exact h4 _ _
    | cons zz zy=>exact hf
  case range=>
   cases v<;>try exact hf
   cases vs with
   | nil=>exact h13 _
   | cons w vs=>
    cases w<;>try exact hf
    cases vs with
    | nil=>exact h14 _ _
    | cons zz zy=>exact hf
  all_goals
   cases v<;>first
    | exact hf
    | (cases vs<;>first
      | exact hf
      | exact h1 _ | exact h2 _ | exact h3 _ | exact h5 _ | exact h6 _ | exact h7 _ | exact h9 _ | exact h10 _ | exact h11 _ | exact h12 _)
theorem Snd.valK {α β:Type} {P:Img→Heap→Prop} {t:Sem α} {R:β→α→Img→Heap→Prop} {c:β} (hn:fr≠[])
  (h:∀ {ι σ} {s:Shared},Inv G fr ι σ s.heap→P ι s.heap→∀ {Q:α→Shared→Prop} {E:Value→Shared→Prop},(∀ {h':Heap} {u tk},(∀ b o,s.heap.get? b=some o→h'.get? b=some o)→R c u ι h'→Q u { s with heap:=h',toks:=tk })→wpAny (model G.prog G.w) A t Q E s):Snd G A fr P t (Pure.pure c) R:=λ zz zz zz zz zz zz I hp e=>by
 cases e
 exact h I hp λ k q=>let ⟨I',S⟩:=I.keeps hn (.of k);⟨c,rfl,_,_,_,rfl,S,I',q⟩
theorem callB_snd (K:Gok G) (H:At A fr d):∀ (b:BI) (vs:List AV) (ws:List Value),Snd G A fr (λ ι h=>RepVs G ι h vs ws) (call b.toV ws) (callB G.T b vs) (RV G):=by
 have hn:=H.ne
 have hm:maxLen=1000000:=rfl
 have int:∀ {n:Int} {t:Tok} {ι:Img} {h':Heap},RV G (.int n) (.int n t) ι h':=λ {n t _ h'}=>⟨t,rfl⟩
 refine callB_cases (P:=λ b vs m=>∀ ws,Snd G A fr (λ ι h=>RepVs G ι h vs ws) (call b.toV ws) m (RV G)) (λ zz=>.fail) ?_ ?_ ?_ ?_ ?_ ?_ ?_ ?_ ?_ ?_ ?_ ?_ ?_ ?_
 ·intro i ws ι σ s r σ' ht I hp e
  obtain⟨l,hl,e⟩:=bind_lst e
  cases e
  obtain⟨v,rfl,p,hpi,rfl⟩:=reps1 hp
  obtain⟨hz,vs,i1,r1⟩:=I.lst hl hpi
  have hlen:=r1.length
  refine PyProof.Rows.len_list i1 (by rw [List.size_toArray,hlen];lia) (OkS.same I ?_)
  refine rwg (List.size_toArray ..) ?_
  refine rwg (hlen ..) ?_
  exact int
 ·refine λ x ws=>.val λ I hp Q E q=>?_
  obtain⟨v,rfl,hz,t,rfl⟩:=reps1 hp
  have hl:Str.length ⟨x.toArray⟩=x.length:=List.size_toArray
  refine P.len_str (by rw [hl];lia) (q _ _ ?_)
  refine rwg (hl ..) ?_
  exact int
 ·refine λ l ws=>.val λ {ι σ s} I hp Q E q=>?_
  obtain⟨v,rfl,a0,vs,rfl,hl,hi,hz⟩:=reps1 hp
  have hl':s.heap.IsList a0 (List.toArray vs):=hl.at λ o e=>I.base _ o e
  have hlen:=hi.length
  refine PyProof.Rows.len_list hl' (by rw [List.size_toArray,hlen];lia) (q _ _ ?_)
  refine rwg (List.size_toArray ..) ?_
  refine rwg (hlen ..) ?_
  exact int
 ·refine λ a b ws=>.valK hn λ I hp Q E q=>?_
  obtain⟨v,w,rfl,⟨t,rfl⟩,u,rfl⟩:=reps2 hp
  refine max_two_ints H.handled λ h' tk k=>q k ?_
  by_cases hab:a < b
  ·rw [if_pos (show b > a from hab),if_pos hab];exact int
  ·rw [if_neg (show ¬ b > a from hab),if_neg hab];exact int
 ·refine λ a ws=>.val λ {ι σ s} I hp Q E q=>?_
  obtain⟨v,rfl,t,rfl⟩:=reps1 hp
  exact call_int_int (q _ s.toks int)
 ·refine λ b ws=>.val λ I hp Q E q=>?_
  obtain⟨v,rfl,hv⟩:=reps1 hp
  subst hv
  exact call_int_bool (q _ _ int)
 ·intro x ws ι σ s r σ' ht I hp e
  refine ex13 (ofOpt_ok e) λ c hc rr2 rr3=>?_
  subst rr2
  subst rr3
  clear H K hm hn ht e
  refine ex12 (Option.map_eq_some_iff.mp hc) λ n hn' rr2=>?_
  subst rr2
  obtain⟨v,rfl,hz,t,rfl⟩:=reps1 hp
  have q:=intw_all _ (lookW_mem hn')
  exact KIN.call_text q.1 (by show (List.toArray _).size≤640;rw [List.size_toArray];exact q.2) (OkS.same I int)
 ·intro v c ws ι σ s r σ' ht I hp e
  refine ex23 (reps2 hp) λ v w rr2 hv hw=>?_
  subst rr2
  exact isi_snd K _ _ _ _ ι σ s r σ' ht I ⟨hv,hw⟩ e
 ·intro i ws ι σ s r σ' ht I hp e
  refine ex12 (bind_lst e) λ l hl e=>?_
  refine ex12 (bind_opt e) λ bs hbs e=>?_
  cases e
  obtain⟨v,rfl,p,hpi,rfl⟩:=reps1 hp
  obtain⟨hz,vs,i1,r1⟩:=I.lst hl hpi
  obtain⟨L,hL⟩:=List.exists_mem_of_ne_nil fr hn
  obtain⟨m,F⟩:=I.frOf hL
  refine all_bools F (news_snap G.base s.heap L) H.handled i1 (bools_of r1 hbs) λ h' tk F' N'=>?_
  obtain⟨I',S⟩:=I.keeps hn (snap_kept I hL F F' (extra:=[]) N')
  exact⟨_,rfl,h',tk,ι,rfl,S,I',rfl⟩
 ·refine λ a ws=>.guard λ hc=>.val λ I hp Q E q=>?_
  obtain⟨v,rfl,t,rfl⟩:=reps1 hp
  exact chr_of_range (by lia) (by lia) (q _ _ ⟨by show 1≤1000000;decide,_,rfl⟩)
 ·refine λ l ws=>.val λ {ι σ s} I hp Q E q=>?_
  refine ex12 (reps1 hp) λ v rr1 hv=>?_
  subst rr1
  have hv':=hv
  clear H K int hm hn hp I σ
  refine ex23 (hv) λ a0 vs rr2 hl zz=>?_
  subst rr2
  exact call_tuple_tup hl (q _ s.toks hv')
 ·intro i ws ι σ s r σ' ht I hp e
  clear H K int hm ht
  obtain⟨l,hl,e⟩:=bind_lst e
  unfold newO at e
  cases e
  obtain⟨v,rfl,p,hpi,rfl⟩:=reps1 hp
  obtain⟨hpe,hz,vs,⟨n,i1⟩,r1⟩:=I.plst hl hpi
  have hlen:=r1.length
  have hms:=maxLen_fits
  refine call_list_seq (hsz:=by rw [List.size_toArray,hlen];lia) p.1 (.inl rfl) i1 rfl rfl λ h' c' k hD=>?_
  exact⟨_,rfl,okP_list (tk:=s.toks) I hn (.of k) (get_size _) ⟨c',hD⟩ r1 hz⟩
 ·refine λ b ws=>.guard λ hb=>.valK hn λ I hp Q E q=>?_
  obtain⟨v,rfl,t,rfl⟩:=reps1 hp
  exact call_range_1 (q (λ b o q=>Heap.get?_push_of_some _ q) ⟨_,_,_,_,rfl,IsRange.new ..,rfl,hb⟩)
 ·refine λ a b ws=>.guard λ hb=>.valK hn λ I hp Q E q=>?_
  obtain⟨v,w,rfl,⟨t,rfl⟩,u,rfl⟩:=reps2 hp
  exact call_range_2 (q (λ b o q=>Heap.get?_push_of_some _ q) ⟨_,_,_,_,rfl,IsRange.new ..,hb.1,hb.2⟩)
noncomputable def Mt.fn:Mt→Value
 | .append=>.builtin "list.append" | .pop=>.builtin "list.pop" | .find=>.builtin "str.find" | .isdigit=>.builtin "str.isdigit" | .join=>.builtin "str.join"
 | .own f=>.ref f
theorem meth_val {o:AV} {v:Value} {x:Str} {pl:Sem Bool} {m:Mt} {y:Str} (h:x=y→∀ {ι:Img} {s:Shared} {σ:AH},Inv G fr ι σ s.heap→RepV G ι s.heap o v→∀ {Q:Value×List Value→Shared→Prop} {E:Value→Shared→Prop},(∀ tk,Q (m.fn,[v]) { s with toks:=tk })→wpAny (model G.prog G.w) A (getMethod v x pl) Q E s)
  (hm:∀ f,m≠.own f) {k:PM Mt} (hk:Snd G A fr (λ ι h=>RepV G ι h o v) (getMethod v x pl) k (λ m r zz zz=>r=(m.fn,[v])∧(∀ f,m = .own f→∃ C,G.T.meth C x=some f))):
  Snd G A fr (λ ι h=>RepV G ι h o v) (getMethod v x pl) (if x=y then pure m else k) (λ m r zz zz=>r=(m.fn,[v])∧(∀ f,m = .own f→∃ C,G.T.meth C x=some f)):=
 .cond (λ hx=>.val λ I hp Q E q=>h hx I hp λ tk=>q _ tk ⟨rfl,λ f z=>absurd z (hm f)⟩) λ zz=>hk
theorem meth_snd (K:Gok G) (H:At A fr d) (o:AV) (v:Value) (x:Str) (pl:Sem Bool):Snd G A fr (λ ι h=>RepV G ι h o v) (getMethod v x pl) (methA G.T o x)
  (λ m r zz zz=>r=(m.fn,[v])∧(∀ f,m = .own f→∃ C,G.T.meth C x=some f)):=by
 cases o with
 | obj i=>
  intro ι σ s r σ' ht I hp e
  refine ex12 (getO_bind e) λ ob ho e=>?_
  have hp0:=hp
  clear hp0 ht
  obtain⟨p,hp,rfl⟩:=hp
  cases ob with
  | dict=>cases e
  | list l=>
   obtain⟨hpe,hz,vs,⟨n,i1⟩,r1⟩:=I.plst ho hp
   have done:∀ {m:Mt} {tk:Tok},(∀ f,m≠.own f)→OkS G fr ι s (λ (b':Mt) r _ _=>r=(b'.fn,[Value.ref p.1])∧(∀ f,b' = .own f→∃ C,G.T.meth C x=some f)) (.ok m) σ (m.fn,[Value.ref p.1]) { s with toks:=tk }:=λ hm=>OkS.same I ⟨rfl,λ f z=>absurd z (hm f)⟩
   by_cases hx:x=nm "append"
   ·cases (congrFun (if_pos hx) σ).symm.trans e
    subst hx
    exact getMethod_builtin ⟨_,i1,rfl⟩ PySem.F.plainAttrs_list PySem.F.slot_list_append PySem.F.type_list_append (λ a e=>by cases e;exact⟨_,i1,rfl⟩) (done (m:=.append) (tk:=s.toks) λ f q=>nomatch q)
   ·replace e:=(congrFun (if_neg hx) σ).symm.trans e
    by_cases hx:x=nm "pop"
    ·cases (congrFun (if_pos hx) σ).symm.trans e
     subst hx
     exact getMethod_builtin ⟨_,i1,rfl⟩ PySem.F.plainAttrs_list PySem.F.slot_list_pop PySem.F.type_list_pop (λ a e=>by cases e;exact⟨_,i1,rfl⟩) (done (m:=.pop) (tk:=s.toks) λ f q=>nomatch q)
    ·exact no_none ((congrFun (if_neg hx) σ).symm.trans e)
  | inst C fs=>
   by_cases hg:(kvGet fs x).isNone=true
   ·replace e:=(congrFun (if_pos hg) σ).symm.trans e
    refine ex13 (ofOpt_ok e) λ m hm rr2 rr3=>?_
    subst rr2
    subst rr3
    obtain⟨f,hf,rfl⟩:=Option.map_eq_some_iff.mp hm
    obtain⟨_,es,n,IA,h2,hr⟩:=I.inst ho hp
    obtain⟨L,hL⟩:=List.exists_mem_of_ne_nil fr H.ne
    obtain⟨m,F⟩:=I.frOf hL
    obtain⟨m1,m2,m3⟩:=K.meth C x f hf
    exact method_inst F G.hK IA m1 m2 m3 (kv_miss hr (Option.isNone_iff_eq_none.mp hg)) (OkS.same (tk:=s.toks) I ⟨rfl,λ f' q=>by cases q;exact⟨C,hf⟩⟩)
   ·exact no_none ((congrFun (if_neg hg) σ).symm.trans e)
 | str s=>
  refine meth_val (m:=.find) (λ hx ι s σ I hp Q E q=>?_) (λ f z=>nomatch z) (meth_val (m:=.isdigit) (λ hx ι s σ I hp Q E q=>?_) (λ f z=>nomatch z) (meth_val (m:=.join) (λ hx ι s σ I hp Q E q=>?_) (λ f z=>nomatch z) .fail))
  ·obtain⟨hz,t,rfl⟩:=hp;subst hx;exact GM.find (q _)
  ·obtain⟨hz,t,rfl⟩:=hp;subst hx;exact GM.isdigit (q _)
  ·obtain⟨hz,t,rfl⟩:=hp;subst hx;exact GM.join (q _)
 | _=>exact .fail
theorem callM_cases {X:Cx} {P:Mt→AV→List AV→PM AV→Prop} (hf:∀ {m o vs},P m o vs PM.fail)
  (h1:∀ i v,P .append (.obj i) [v] (lsO i>>=λ l=>if l.length < maxLen then (setO i (.list (l++[v]))>>=λ zz=>pure .none) else PM.fail))
  (h2:∀ i,P .pop (.obj i) [] (lsO i>>=λ l=>match l.getLast? with | some v=>(setO i (.list l.dropLast)>>=λ zz=>pure v) | none=>PM.fail))
  (h3:∀ s n,P .find (.str s) [.str n] (if s=[10]∧n=[10] then pure (.int 0) else if s=[32,13,10,32]∧n=[10] then pure (.int 2) else PM.fail))
  (h4:∀ s,P .isdigit (.str s) [] (PM.ofOpt ((lookB digWords s).map .bool)))
  (h5:∀ s i,P .join (.str s) [.obj i] (lsO i>>=λ l=>PM.ofOpt (strsOf l)>>=λ ts=>if s=[]∧ts.flatten.length + ts.length≤maxLen then pure (.str ts.flatten) else PM.fail)):
  ∀ m o vs,(∀ f,m≠.own f)→P m o vs (callM X m o vs):=by
 intro m o vs hm
 cases m with
 | own f=>exact absurd rfl (hm f)
 | append=>cases o with
  | obj i=>cases vs with
   | nil=>exact hf
   | cons v r=>cases r with
    | nil=>exact h1 i v
    | cons=>exact hf
  | _=>exact hf
 | pop=>cases o with
  | obj i=>cases vs with
   | nil=>exact h2 i
   | cons=>exact hf
  | _=>exact hf
 | find=>cases o with
  | str s=>cases vs with
   | nil=>exact hf
   | cons v r=>cases r with
    | nil=>cases v<;>first | exact hf | exact h3 _ _
    | cons=>cases v<;>exact hf
  | _=>exact hf
 | isdigit=>cases o with
  | str s=>cases vs with
   | nil=>exact h4 s
   | cons=>exact hf
  | _=>exact hf
 | join=>cases o with
  | str s=>cases vs with
   | nil=>exact hf
   | cons v r=>cases r with
    | nil=>cases v<;>first | exact hf | exact h5 _ _
    | cons=>cases v<;>exact hf
  | _=>exact hf
theorem callM_snd (H:At A fr d) (X:Cx):∀ (m:Mt) (o:AV) (vs:List AV),(∀ f,m≠.own f)→∀ (v:Value) (ws:List Value),Snd G A fr (λ ι h=>RepV G ι h o v∧RepVs G ι h vs ws) (call m.fn (v :: ws)) (callM X m o vs) (RV G):=by
 have hn:=H.ne
 have hmx:maxLen=1000000:=rfl
 have hms:=maxLen_fits
 refine callM_cases (P:=λ m o vs k=>∀ (v:Value) (ws:List Value),Snd G A fr (λ ι h=>RepV G ι h o v∧RepVs G ι h vs ws) (call m.fn (v :: ws)) k (RV G)) (λ zz zz=>.fail) ?_ ?_ ?_ ?_ ?_
 ·intro i0 a0 v ws ι σ s r σ' ht I hp e
  obtain⟨hv,hp⟩:=hp
  obtain⟨l,hl,e⟩:=bind_lst e
  by_cases hlt:l.length < maxLen
  ·rw [if_pos hlt] at e
   cases e
   obtain⟨w,rfl,hw⟩:=reps1 hp
   obtain⟨p,hpi,rfl⟩:=hv
   obtain⟨hpe,hz,vs,i1,r1⟩:=I.plst hl hpi
   have hlen:=r1.length
   refine wpAny_list_append_plain i1 (λ h' i1' hs=>?_) (by rw [List.size_toArray,hlen];lia)
   obtain⟨I',S⟩:=I.upd hpi (.inl rfl) hs (by obtain⟨n,ho⟩:=i1';exact⟨_,ho⟩) (o':=.list (l++[a0])) λ S=>⟨hpe,by rw [List.length_append];exact hlt,vs++[w],by simpa using i1',
    RepVs.step I S mildNo _ _ (r1.app ⟨hw,trivial⟩)⟩
   exact⟨.none,rfl,h',s.toks,ι,rfl,S,I',rfl⟩
  ·rw [if_neg hlt] at e
   cases e
 ·intro i0 v ws ι σ s r σ' ht I hp e
  obtain⟨hv,hp⟩:=hp
  obtain⟨l,hl,e⟩:=bind_lst e
  cases hlast:l.getLast? with
  | none=>rw [hlast] at e;cases e
  | some a0=>
   rw [hlast] at e
   cases e
   rw [reps0 hp]
   obtain⟨p,hpi,rfl⟩:=hv
   obtain⟨hpe,hz,vs,⟨n,i1⟩,r1⟩:=I.plst hl hpi
   have hlen:=r1.length
   have hne:l≠[]:=by rintro rfl;cases hlast
   have hpos:0 < l.length:=List.length_pos_iff.mpr hne
   have hge:l[l.length - 1]? = some a0:=by rw [← List.getLast?_eq_getElem?];exact hlast
   obtain⟨u,hu,ru⟩:=r1.get hge
   have hy:(List.toArray vs)[(List.toArray vs).size - 1]? = some u:=by rw [List.size_toArray,hlen];simpa using hu
   refine call_meets PySem.F.slot_list_pop ⟨_,i1,rfl⟩ PySem.F.entry_list_pop (PySem.F.args_list_pop_1 _) (PySem.MeetsSeq.list_pop_last p.1 _ n u hy (by rw [List.size_toArray,hlen];lia)) ⟨i1,?_⟩
   have i1':=PySem.IsL.update i1 (λ xs=>xs.eraseIdxIfInBounds ((List.toArray vs).size - 1))
   have hdl:vs.dropLast=vs.take (vs.length - 1):=List.dropLast_eq_take
   have hdl':l.dropLast=l.take (l.length - 1):=List.dropLast_eq_take
   have her:(List.toArray vs).eraseIdxIfInBounds ((List.toArray vs).size - 1)=List.toArray vs.dropLast:=by
    rw [List.size_toArray]
    have hv:vs.length - 1 < vs.length:=by lia
    unfold Array.eraseIdxIfInBounds
    rw [dif_pos (by simpa using hv)]
    apply Array.ext'
    rw [Array.toList_eraseIdx]
    simp [List.eraseIdx_eq_take_drop_succ,List.dropLast_eq_take,Nat.sub_add_cancel (show 1≤vs.length by lia)]
   obtain⟨I',S⟩:=I.upd hpi (.inl rfl) (Heap.SameBut.update ..) ⟨_,i1'⟩ (o':=.list l.dropLast) λ S=>⟨hpe,by rw [List.length_dropLast];lia,vs.dropLast,⟨_,by rw [← her];exact i1'⟩,
    RepVs.step I S mildNo _ _ (by rw [hdl,hdl',hlen];exact r1.take _)⟩
   exact⟨_,rfl,_,s.toks,ι,rfl,S,I',RepV.step I S mildNo _ _ ru⟩
 ·refine λ x n v ws=>.cond (λ hc=>?_) λ zz=>.guard λ hc=>?_
  ·obtain⟨rfl,rfl⟩:=hc
   refine .val λ I hp Q E q=>?_
   obtain⟨⟨hz,t,rfl⟩,hw⟩:=hp
   obtain⟨w,rfl,hz',t',rfl⟩:=reps1 hw
   refine SC.find ?_
   rw [find_one]
   exact q _ _ ⟨_,rfl⟩
  ·obtain⟨rfl,rfl⟩:=hc
   refine .val λ I hp Q E q=>?_
   obtain⟨⟨hz,t,rfl⟩,hw⟩:=hp
   obtain⟨w,rfl,hz',t',rfl⟩:=reps1 hw
   refine SC.find ?_
   rw [find_two]
   exact q _ _ ⟨_,rfl⟩
 ·intro x v ws ι σ s r σ' ht I hp e
  obtain⟨c,hc,rfl,rfl⟩:=ofOpt_ok e
  obtain⟨n,hn',rfl⟩:=Option.map_eq_some_iff.mp hc
  obtain⟨⟨hz,t,rfl⟩,hp⟩:=hp
  rw [reps0 hp]
  refine SC.isdigit ?_
  rw [digw_all _ (lookB_mem hn')]
  exact OkS.same (tk:=s.toks) I rfl
 ·intro x i0 v ws ι σ s r σ' ht I hp e
  obtain⟨hv,hp⟩:=hp
  obtain⟨l,hl,e⟩:=bind_lst e
  obtain⟨ts,hts,e⟩:=bind_opt e
  by_cases hc:x=[]∧ts.flatten.length + ts.length≤maxLen
  ·rw [if_pos hc] at e
   cases e
   obtain⟨rfl,hc⟩:=hc
   obtain⟨w,rfl,hw⟩:=reps1 hp
   obtain⟨hz,t,rfl⟩:=hv
   obtain⟨p,hpi,rfl⟩:=hw
   obtain⟨hzl,vs,i1,r1⟩:=I.lst hl hpi
   have hs:=strs_of r1 hts
   have hw:((ts.map λ t=>(⟨t.toArray⟩:Str)).map (·.length)).sum=ts.flatten.length:=by
    rw [List.length_flatten,List.map_map]
    congr 1
   have hflat:Txt.join ⟨[].toArray⟩ (ts.map λ t=>(⟨t.toArray⟩:Str))=⟨ts.flatten.toArray⟩:=by
    have q:=join_nil_cps (ts.map λ t=>(⟨t.toArray⟩:Str))
    have:(ts.map λ t=>(⟨t.toArray⟩:Str)).map (λ t=>t.cps.toList)=ts:=by
     rw [List.map_map]
     conv=>rhs;rw [← List.map_id ts]
     apply List.map_congr_left
     intro x _
     simp
    rw [this] at q
    rw [eq_of_beq (join_plain_closes _ _)]
    show Str.join ⟨#[]⟩ _=_
    rcases hj:Str.join ⟨#[]⟩ (ts.map λ t=>(⟨t.toArray⟩:Str)) with ⟨c⟩
    rw [hj] at q
    simp only at q
    rw [← q,hj,Array.toArray_toList]
   refine join_listW i1 (by simpa using hs) (Nat.zero_le _) ?_ λ t' k=>OkS.same I ?_
   ·rw [hw,List.length_map];lia
   ·rw [hflat]
    exact⟨by lia,t',rfl⟩
  ·rw [if_neg hc] at e
   cases e
end
end
section
open PySem PySem.W PySem.Calls PyProof.Rows
theorem plain_star:∀ {es:List Expr} (env:Env),plainArgs es=true→starEach es env=es.map λ e=>(false,eval e env)
 | [],zz,zy=>rfl
 | e :: r,env,h=>by
  obtain⟨h1,h2⟩:=(Bool.and_eq_true_iff.mp ((List.all_cons).symm.trans h):_∧plainArgs r=true)
  have hd:starEach (e :: r) env=(false,eval e env) :: starEach r env:=by cases e<;>first | rfl | cases h1
  rw [hd,plain_star env h2];rfl
theorem plain_back {es:List Expr} {env:Env} {pos:Pos} (h:plainArgs es=true):backTo pos (starEach es env)=es.map λ e=>(false,eval e env):=by
 rw [plain_star env h]
 unfold backTo
 rw [List.map_map]
 rfl
theorem base_ok {o:Expr} {x:Str} {env:Env} {t:Sem Value} (h:baseOk o=true):attributeBase o x env t=t:=by
 cases o with
 | Call f as ks p=>
  cases f with
  | Name x px=>
   cases as with
   | cons=>rfl
   | nil=>cases ks with
    | cons=>rfl
    | nil=>cases h
  | _=>rfl
 | _=>rfl
section
variable {G:Gd} {A:Around} {fr:List Addr} {d:Nat} {env:Env} {P:Img→Heap→Prop} {β γ:Type}
noncomputable def Reps (G:Gd) (l:List AV) (vs:List Value) (ι:Img) (h:Heap):Prop:=RepVs G ι h l vs
theorem splice_snd (hP:Pers G fr P) (m:Expr→PM AV):∀ {es:List Expr},(∀ e∈es,Snd G A fr P (eval e env) (m e) (RV G))→Snd G A fr P (spliced (es.map λ e=>(false,eval e env))) (seqA (es.map m)) (Reps G)
 | [],zz=>by
  show Snd G A fr P (pure []) (pure []) _
  exact Snd.pure λ ι h zz=>trivial
 | e :: r,H=>by
  show Snd G A fr P (eval e env>>=λ v=>(pure [v]>>=λ here=>holding here (spliced (r.map λ e=>(false,eval e env)))>>=λ z=>pure (here++z))) (m e>>=λ v=>seqA (r.map m)>>=λ vs=>pure (v :: vs)) _
  refine Snd.bind hP (H e (.head _)) λ b v=>?_
  show Snd G A fr _ (holding [v] (spliced (r.map λ e=>(false,eval e env)))>>=λ z=>pure ([v]++z)) _ _
  refine Snd.bind (hP.and (Pers.rep b v)) (Snd.holding ((splice_snd hP m λ e he=>H e (.tail _ he)).pre λ zz zz q=>q.1)) λ bs vs=>?_
  exact Snd.pure λ ι h q=>by
   have h1:RepV G ι h b v:=q.1.2
   have h2:RepVs G ι h bs vs:=q.2
   show RepVs G ι h (b :: bs) ([v]++vs)
   exact⟨h1,h2⟩
noncomputable def KeepOk (G:Gd) (fv:Value):Prop:=∀ (M:Model) (h:Heap),G.K.In h→∃ k,(k=Keeper.frame∨k=Keeper.machine∨k=Keeper.boundFrame)∧Looks M h (keeperOf fv) k
theorem KeepOk.builtin (id:String):KeepOk G (.builtin id):=λ zz zz zz=>⟨.machine,.inr (.inl rfl),Looks.of_pure rfl⟩
theorem KeepOk.type (id:String):KeepOk G (.type id):=λ zz zz zz=>⟨.machine,.inr (.inl rfl),Looks.of_pure rfl⟩
theorem KeepOk.ref {f:Addr} (h:keepIn G.K (.ref f)=true):KeepOk G (.ref f):=λ zz zz X=>keeps_K h _ X
theorem KeepOk.bi (b:BI):KeepOk G b.toV:=by cases b<;>first | exact KeepOk.builtin _ | exact KeepOk.type _
theorem callWith_snd (hP:Pers G fr P) {fv:Value} {first:List Value} {pos:Pos} {es:List Expr} {m:PM (List AV)} {g:List AV→PM β} {R:β→Value→Img→Heap→Prop} (hpl:plainArgs es=true)
  (hes:Snd G A fr P (spliced (es.map λ e=>(false,eval e env))) m (Reps G)) (hk:∀ vs σ r,g vs σ=some r→KeepOk G fv)
  (hc:∀ vs ws,Snd G A fr (λ ι h=>P ι h∧Reps G vs ws ι h) (call fv (first++ws)) (g vs) R):
  Snd G A fr P (callWith pos fv first (backTo pos (starEach es env)) []) (m>>=g) R:=by
 rw [plain_back hpl]
 intro ι σ s r σ' ht I hp e
 have key:wpAny (model G.prog G.w) A (spliced (es.map λ e=>(false,eval e env))) (λ ws s₁=>(∃ k,(k=Keeper.frame∨k=Keeper.machine∨k=Keeper.boundFrame)∧Looks (model G.prog G.w) s₁.heap (keeperOf fv) k) ∧
   wpAny (model G.prog G.w) A (call fv (first++ws)) (OkS G fr ι s R r σ') (ErS G fr ι s r σ') s₁)
   (ErS G fr ι s r σ') s:=by
  refine Snd.step hes ht I hp e (λ zz zz q=>q) λ vs ws h₁ tk ι₁ σ₁ ht₁ S I₁ hr e'=>⟨hk vs σ₁ _ e' _ _ (G.hK.keeps I₁.base),?_⟩
  exact wpAny_mono (hc vs ws ι₁ σ₁ _ r σ' ht₁ I₁ ⟨hP _ _ _ _ _ I S hp,hr⟩ e') (λ zz zy ⟨b',e,o⟩=>⟨b',e,o.after S⟩) λ zz zy ⟨p,e,o⟩=>⟨p,e,o.after S⟩
 have hany:∀ l:List Expr,((l.map λ e=>((false,eval e env):Bool×Sem Value)).any (·.1))=false:=by
  intro l
  induction l with
  | nil=>rfl
  | cons a r ih=>rw [List.map_cons,List.any_cons,ih];rfl
 refine callWith_of (P:=λ h=>∃ k,(k=Keeper.frame∨k=Keeper.machine∨k=Keeper.boundFrame)∧Looks (model G.prog G.w) h (keeperOf fv) k) (by rw [hany];rfl) (λ h q=>q) ?_
 clear pos hc hk hes hpl hP hany e hp I ht σ g m
 cases es with
 | nil=>
  unfold evalArgs
  show wpAny _ A (spliced []>>=_) _ _ s
  refine wpAny_bind (wpAny_mono (show wpAny _ A (spliced []) _ _ s from key) (λ vs s' h'=>?_) λ zz zz x=>x)
  refine wpAny_holding ?_
  exact wpAny_bind (wpAny_pure (wpAny_bind (wpAny_pure (wpAny_pure h'))))
 | cons e0 es=>exact evalArgs_plain key
structure CallOk (G:Gd) (A:Around) (fr:List Addr) (X:Cx):Prop where
 tab:X.T=G.T
 keep:∀ f vs σ r,X.call f vs σ=some r→KeepOk G (.ref f)
 ok:∀ f vs ws,Snd G A fr (λ ι h=>RepVs G ι h vs ws) (call (.ref f) ws) (X.call f vs) (RV G)
theorem callA_snd (K:Gok G) (H:At A fr d) {X:Cx} (C:CallOk G A fr X) (fa:AV) (fv:Value) (vs:List AV) (ws:List Value):
  Snd G A fr (λ ι h=>RepV G ι h fa fv∧RepVs G ι h vs ws) (call fv ws) (callA X fa vs) (RV G):=by
 cases fa with
 | val f=>
  intro ι σ s r σ' ht I hp e
  obtain⟨hf,hp⟩:=hp
  obtain⟨rfl,_⟩:=hf
  exact C.ok f vs ws ι σ s r σ' ht I hp e
 | bi b=>
  intro ι σ s r σ' ht I hp e
  obtain⟨hf,hp⟩:=hp
  subst hf
  have e':callB X.T b vs σ=some (r,σ'):=e
  rw [C.tab] at e'
  exact callB_snd K H b vs ws ι σ s r σ' ht I hp e'
 | _=>exact λ ι σ s r σ' ht I hp e=>by cases e
theorem callA_keep {X:Cx} (C:CallOk G A fr X) {fa:AV} {fv:Value} {ι:Img} {h:Heap} (hf:RepV G ι h fa fv) {vs:List AV} {σ:AH} {r:Except AV AV×AH} (e:callA X fa vs σ=some r):KeepOk G fv:=by
 cases fa<;>try (cases e)
 ·obtain⟨rfl,_⟩:=hf
  exact C.keep _ _ _ _ e
 ·obtain rfl:=hf;exact KeepOk.bi _
theorem methodCall_snd (K:Gok G) (H:At A fr d) {X:Cx} (C:CallOk G A fr X) (hP:Pers G fr P) {o:Expr} {x:Str} {ap p:Pos} {args:List Expr} {mo:PM AV} {ma:PM (List AV)}
  (ho:Snd G A fr P (eval o env) mo (RV G)) (ha:Snd G A fr P (spliced (args.map λ e=>(false,eval e env))) ma (Reps G)) (hpl:plainArgs args=true) (hlen:args.length < 20) (hline:ap.endLine=p.line) (hb:baseOk o=true):
  Snd G A fr P (eval (.Call (.Attribute o x ap) args [] p) env) (do let ov ← mo;let m ← methA X.T ov x;let vs ← ma;callM X m ov vs) (RV G):=by
 refine rwg (arm_eval_Call ..) ?_
 refine rwg (base_ok hb ..) ?_
 refine Snd.bind hP ho λ ov v=>?_
 have hP':Pers G fr (λ ι h=>P ι h∧RV G ov v ι h):=hP.and (Pers.rep ov v)
 refine Snd.of ?_ λ Q E s h=>wpAny_bind (wpAny_standAt h)
 have hform:methodCallForm (args.length + ([]:List Keyword).length) (backTo p (starEach args env)) (backToKw p (keywordEach [] env))=true:=by
  rw [plain_back hpl]
  have:((args.map λ e=>((false,eval e env):Bool×Sem Value)).all (!·.1))=true:=by rw [List.all_map,List.all_eq_true];intro _ _;rfl
  unfold methodCallForm
  refine rwg (this ..) ?_
  simp only [List.length_nil,Nat.add_zero]
  show (true && true && decide (args.length + 0 < 30))=true
  simpa using (by lia:args.length < 30)
 have hpos:methodCallPos true o env ap p=pure p:=by unfold methodCallPos;simp [hline]
 unfold methodCall
 refine rwg (hform ..) ?_
 refine Snd.bind (R:=λ m r zz zz=>r=(m.fn,[v])∧(∀ f,m = .own f→∃ C,G.T.meth C x=some f)) hP' ?_ λ m fx=>?_
 ·have:=meth_snd (A:=A) K H ov v x (do return (← importBound o env).getD true)
  refine rwg (C.tab ..) ?_
  exact Snd.holding (this.pre λ zz zz q=>q.2)
 ·obtain⟨f,first⟩:=fx
  intro ι σ s r σ' ht I hp e
  obtain⟨hp,hfx,hown⟩:=hp
  obtain⟨rfl,rfl⟩:=Prod.mk.inj hfx
  refine wpAny_bind (wpAny_of_eq hpos ?_)
  refine callWith_snd hP' (m:=ma) (g:=λ vs=>callM X m ov vs) hpl (ha.pre λ zz zz q=>q.1) (λ vs σ r e=>?_) (λ vs ws=>?_) ι σ s r σ' ht I hp e
  ·clear hb hline hlen hpl ha ho hP H K hpos hform hP' I ht hown hfx hp mo args p ap x o v s ι
   cases m<;>first | exact KeepOk.builtin _ | skip
   exact C.keep _ _ _ _ e
  ·clear hb hline hlen hpl ha ho hP K hpos hform hP' e I ht σ' r σ hown hfx hp ma mo args p ap x o s ι
   cases m with
   | own f=>exact (C.ok f (ov :: vs) (v :: ws)).pre λ zz zz q=>⟨q.1.2,q.2⟩
   | _=>exact (callM_snd H X _ ov vs (λ f q=>by cases q) v ws).pre λ zz zz q=>⟨q.1.2,q.2⟩
theorem eval_call_other {f:Expr} {args:List Expr} {kws:List Keyword} {p:Pos} {env:Env} (hf:∀ o x ap,f≠.Attribute o x ap):eval (.Call f args kws p) env=(do callWith p (← eval f env) [] (backTo p (starEach args env)) (backToKw p (keywordEach kws env))):=by
 cases f<;>first | rfl | exact absurd rfl (hf _ _ _)
theorem plainCall_snd (K:Gok G) (H:At A fr d) {X:Cx} (C:CallOk G A fr X) (hP:Pers G fr P) {f:Expr} {p:Pos} {args:List Expr} {mf:PM AV} {ma:PM (List AV)} (hf:∀ o x ap,f≠.Attribute o x ap)
  (ho:Snd G A fr P (eval f env) mf (RV G)) (ha:Snd G A fr P (spliced (args.map λ e=>(false,eval e env))) ma (Reps G)) (hpl:plainArgs args=true):
  Snd G A fr P (eval (.Call f args [] p) env) (do let fv ← mf;let vs ← ma;callA X fv vs) (RV G):=by
 refine rwg (eval_call_other hf ..) ?_
 refine Snd.bind hP ho λ fa fv=>?_
 have hP':Pers G fr (λ ι h=>P ι h∧RV G fa fv ι h):=hP.and (Pers.rep fa fv)
 intro ι σ s r σ' ht I hp e
 have hfv:RepV G ι s.heap fa fv:=hp.2
 refine callWith_snd hP' (m:=ma) (g:=λ vs=>callA X fa vs) hpl (ha.pre λ zz zz q=>q.1) (λ vs σ r e=>callA_keep C hfv e) (λ vs ws=>?_) ι σ s r σ' ht I hp e
 exact (callA_snd K H C fa fv vs ws).pre λ zz zz q=>⟨q.1.2,q.2⟩
set_option tactic.hygienic true in
theorem replace_snd (hP:Pers G fr P) {o:Expr} {ap p q1 q2:Pos} {k1 k2:Nat} {mo:PM AV}
  (ho:Snd G A fr P (eval o env) mo (RV G)) (hline:ap.endLine=p.line) (hb:baseOk o=true):
  Snd G A fr P (eval (.Call (.Attribute o (nm "replace") ap) [.Constant (.str (nm "-")) k1 q1,.Constant (.str (nm "")) k2 q2] [] p) env)
   (do let ov ← mo;(match ov with | .str s=>if s∈bareWords then pure (.str (s.filter (·≠45))) else PM.fail | _=>PM.fail:PM AV)) (RV G):=by
 rw [arm_eval_Call,base_ok hb]
 refine Snd.bind hP ho λ ov v=>?_
 intro ι σ s r σ' ht I hp e
 refine wpAny_bind (wpAny_standAt ?_)
 have hv:RepV G ι s.heap ov v:=hp.2
 cases ov<;>try (cases e)
 rename_i x
 simp only at e
 split at e
 case isFalse=>cases e
 rename_i hx
 cases e
 obtain⟨hz,t,rfl⟩:=hv
 obtain⟨r1,r2⟩:=rep_all x hx
 have hpos:methodCallPos true o env ap p=pure p:=by unfold methodCallPos;simp [hline]
 unfold methodCall
 show wpAny _ A (holding _ (calleeOf true o env _ _)>>=_) _ _ _
 refine wpAny_bind (wpAny_holding (GM.replace ?_))
 refine wpAny_bind (wpAny_of_eq hpos ?_)
 refine callWith_builtin rfl (evalArgs_plain ?_)
 show wpAny _ A (spliced [(false,eval _ env),(false,eval _ env)]) _ _ _
 have one:∀ (c:Str) (k:Nat) (q:Pos) (s1:Shared) (Q:Value→Shared→Prop) (E:Value→Shared→Prop),Q (.str c s1.toks) { s1 with toks:=s1.toks + 1 }→wpAny (model G.prog G.w) A (eval (.Constant (.str c) k q) env) Q E s1:=λ c k q s1 Q E h=>wpAny_mkText h
 refine wpAny_bind (one _ _ _ _ _ _ ?_)
 refine wpAny_bind (wpAny_pure ?_)
 refine wpAny_bind (wpAny_holding ?_)
 refine wpAny_bind (one _ _ _ _ _ _ ?_)
 refine wpAny_bind (wpAny_pure ?_)
 refine wpAny_bind (wpAny_holding ?_)
 refine wpAny_pure (wpAny_pure (wpAny_pure ?_))
 refine SC.replaceW (Nat.pos_iff_ne_zero.mp ht) (Nat.succ_ne_zero _) (λ q=>absurd q (Nat.ne_of_lt (Nat.lt_succ_self _))) (by decide) ?_ (by decide) λ t' k=>?_
 ·show (List.toArray x).size≤_;rw [List.size_toArray];lia
 ·rw [r1]
  refine⟨_,rfl,s.heap,k,ι,rfl,.refl,I,?_⟩
  exact⟨Nat.le_trans (List.length_filter_le _ _) hz,t',rfl⟩
end
section
variable {G:Gd} {A:Around} {fr:List Addr} {ι ι' ι₀:Img} {σ σ₀:AH} {h h' h₀:Heap} {d:Nat} {W V:Addr→Prop}
theorem Inv.away_inv (I:Inv G fr ι σ h) (hn:fr≠[]) (hb:∀ b,W b→G.base.get? b=none) (ho:∀ b,W b→¬ Own ι b) (M:Mild W h)
  (k:∀ b o,¬ W b→b ∉ fr→h.get? b=some o→h'.get? b=some o) (kf:∀ b∈fr,¬ W b→∀ m,h.Ns b m→h'.Ns b m) (kw:∀ b∈fr,W b→∃ m,h'.Ns b m):Inv G fr ι σ h':=by
 have hfr:∀ b∈fr,∃ m,h'.Ns b m:=λ b hf=>by
  by_cases w:W b
  ·exact kw b hf w
  ·obtain⟨⟨m,hm⟩,_⟩:=I.frames b hf
   exact⟨m,kf b hf w m hm⟩
 have hk:∀ b o,h.get? b=some o→¬ Own ι b→b ∉ fr→¬ W b→h'.get? b=some o:=λ b o e zz f w=>k b o w f e
 refine⟨I.len,λ i o p e1 e2=>?_,I.apart,I.new,λ b o e=>k b o (λ w=>by rw [hb b w] at e;cases e) (I.baseFree e) (I.base b o e),?_,λ b hf=>⟨hfr b hf,(I.frames b hf).2⟩⟩
 ·have R:=I.at_ i o p e1 e2
  have hp:=List.mem_of_getElem? e2
  have w1:¬ W p.1:=λ w=>ho _ w ⟨p,hp,.inl rfl⟩
  have w2:¬ W p.2:=λ w=>ho _ w ⟨p,hp,.inr rfl⟩
  have f1:=I.ownFree ⟨p,hp,.inl rfl⟩
  have f2:=I.ownFree ⟨p,hp,.inr rfl⟩
  clear kw kf ho hb hn e2 e1 i hp hfr
  cases o with
  | list l=>
   obtain⟨e,hz,vs,hl,hr⟩:=R
   exact⟨e,hz,vs,hl.at λ o e=>k _ o w1 f1 e,RepVs.move I (λ zz zz e=>e) hk M _ _ hr⟩
  | inst C fs=>
   obtain⟨h1,hz,es,n,h2,hr⟩:=R
   exact⟨k _ _ w1 f1 h1,hz,es,n,k _ _ w2 f2 h2,RepKv.move I (λ zz zz e=>e) hk M _ _ hr⟩
  | dict fs=>
   obtain⟨e,hz,kvs,⟨o,es,ep,h2,hc⟩,hk',hr⟩:=R
   exact⟨e,hz,kvs,⟨o,es,ep,k _ _ w1 f1 h2,hc⟩,hk',RepVs.move I (λ zz zz e=>e) hk M _ _ hr⟩
 ·clear kw kf k M ho hb hk
  cases fr with
  | nil=>exact absurd rfl hn
  | cons L r=>
   obtain⟨m,e⟩:=hfr L (.head _)
   exact Nat.le_of_lt (Nat.lt_of_le_of_lt (I.frames L (.head _)).2.2 e.lt)
theorem Inv.away (I:Inv G fr ι σ h) (hn:fr≠[]) (hb:∀ b,W b→G.base.get? b=none) (ho:∀ b,W b→¬ Own ι b) (M:Mild W h)
  (k:∀ b o,¬ W b→b ∉ fr→h.get? b=some o→h'.get? b=some o) (kf:∀ b∈fr,¬ W b→∀ m,h.Ns b m→h'.Ns b m) (kw:∀ b∈fr,W b→∃ m,h'.Ns b m)
  (al:∀ b o,W b→h.get? b=some o→∃ o',h'.get? b=some o'):Inv G fr ι σ h'∧Step W fr ι ι h h':=by
 refine⟨I.away_inv hn hb ho M k kf kw,⟨[],by simp,by simp⟩,λ b o e zz f w=>k b o w f e,λ b hb w m e=>kf b hb w m e,λ b o e=>?_⟩
 by_cases w:W b
 ·exact al b o w e
 ·by_cases hf:b∈fr
  ·obtain⟨⟨m,hm⟩,_⟩:=I.frames b hf
   refine ex32 (kf b hf w m hm) λ o' zz zz e' zz=>?_
   exact⟨o',e'⟩
  ·exact⟨o,k b o w hf e⟩
theorem Step.fold (I₀:Inv G fr ι₀ σ₀ h₀) (S:Step W fr ι₀ ι h₀ h) (S':Step V fr ι ι' h h') (hv:∀ b,V b→h₀.get? b=none):Step W fr ι₀ ι' h₀ h' where
 ext:=by
  have S1:=S.wide (W':=λ b=>W b∨V b) λ zz=>.inl
  have S2:=S'.wide (W':=λ b=>W b∨V b) λ zz=>.inr
  exact (S1.trans S2).ext
 keep:=λ b o e n f w=>S'.keep b o (S.keep b o e n f w) (S.notOwn e n) f λ v=>by rw [hv b v] at e;cases e
 ns:=λ b hb w m e=>S'.ns b hb (λ v=>by obtain⟨o,_,_,ho,_⟩:=e;rw [hv b v] at ho;cases ho) m (S.ns b hb w m e)
 alive:=λ b o e=>let ⟨o',e'⟩:=S.alive b o e;S'.alive b o' e'
theorem Step.gone (S:Step W fr ι₀ ι h₀ h) {b:Addr} (e:h.get? b=none):h₀.get? b=none:=by
 cases q:h₀.get? b with
 | none=>rfl
 | some o=>obtain⟨o',e'⟩:=S.alive b o q;rw [e] at e';cases e'
theorem frames_fun (I:Inv G fr ι σ h):∀ {l:List Env},(∀ e∈l,e.scope.kind≠.module∧e.frame.isSome=true)→(∀ b∈l.filterMap (·.frame),b∈fr)→h.FunFrames G.base l
 | [],zz,zy=>trivial
 | e :: r,h1,h2=>by
  obtain⟨k,hs⟩:=h1 e (.head _)
  obtain⟨L,hL⟩:=Option.isSome_iff_exists.mp hs
  rw [List.filterMap_cons,hL] at h2
  have hLf:=h2 L (.head _)
  refine ex32 (I.frame hLf) λ o es ep ho hd=>?_
  exact⟨k,⟨L,o,hL,Heap.get?_none_of_le (I.frames L hLf).2.2,ho,λ vs q=>by rw [hd] at q;cases q⟩,frames_fun I (λ e he=>h1 e (.tail _ he)) λ b hb=>h2 b (.tail _ hb)⟩
theorem ns_slots {b:Addr} {m:Str→Option Value} (k:∀ o,h.get? b=some o→∃ sl,h'.get? b=some { o with slots:=sl }) (e:h.Ns b m):h'.Ns b m:=by
 refine ex33 (e) λ o es ep ho hd r=>?_
 obtain⟨sl,hs⟩:=k o ho
 exact⟨_,es,ep,hs,hd,r⟩
theorem At.frameOf_eq (H:At A fr d) {env:Env} {L:Addr} {r:List Addr} (hf:env.frame=some L) (hfr:fr=L :: r):
  ∃ fenv outer,A.frames=some (fenv :: outer)∧fenv.frame=some L∧PySem.frameOf env=PySem.frameOf fenv∧(∀ b∈(fenv :: outer).filterMap (·.frame),b∈fr)∧∀ e∈fenv :: outer,e.scope.kind≠.module∧e.frame.isSome=true:=by
 refine ex34 (H.frames) λ fenv outer L' h1 h2 h3 h4=>?_
 rw [h3] at hfr
 injection hfr with e1 e2
 subst e1
 refine⟨fenv,outer,h1,h2,?_,?_,h4⟩
 ·unfold PySem.frameOf
  refine rwg (hf ..) ?_
  refine rwg (h2 ..) rfl
 ·intro b hb
  rw [List.filterMap_cons,h2] at hb
  rw [h3];exact hb
theorem entry_wp (H:At A fr d) {M:Model} {env:Env} {L:Addr} {r:List Addr} {s:Shared} {x:Addr} {p:AV} {head:Value} {hadNext:Bool} {Q:Unit→Shared→Prop} {E:Value→Shared→Prop} (hf:env.frame=some L) (hfr:fr=L :: r)
  (I₀:Inv G fr ι₀ σ₀ h₀) (S:Step W fr ι₀ ι h₀ s.heap) (I:Inv G fr ι σ s.heap) (nx:h₀.get? x=none)
  {dx:Addr} {vs:Array Value} {es:List DictEntry} {n:Nat} {sl:Array (Option Value)} {u:Value} (hx:s.heap.get? x=some ⟨.ref G.T.exc,some dx,.fields vs,sl⟩) (n0:h₀.get? dx=none) (hdx:s.heap.get? dx=some (dictOf es n)) (hpl:getL (nm "place") es=some (some u)) (ru:RepV G ι s.heap p u) (hz:2≤vs.size)
  (h:∀ h',Step W fr ι₀ ι h₀ h'→Inv G fr ι σ h'→Fly G ι h₀ h' x p true→Q () { s with heap:=h' }):
  wpAny M A (do let a ← PySem.frameOf env;let pl ← entryPlaceOf L hadNext;let b ← EntryCells.newEntry head a .none (rawInt L) .none pl;setField (.ref x) 1 b) Q E s:=by
 refine ex25 (H.frameOf_eq hf hfr) λ fenv outer g1 g2 g3 g4 g5=>?_
 refine rwg (g3 ..) ?_
 have hfx:x ∉ fr:=(I.fieldsFree hx rfl).2
 have hox:¬ Own ι x:=(I.fieldsFree hx rfl).1
 refine wpAny_bind (wpAny_frameOf_fun (base:=G.base) g1 (frames_fun I g5 g4) g2 λ h₁ hs₁=>?_)
 refine wpAny_bind (wpAny_entryPlaceOf λ pl hpl'=>?_)
 unfold EntryCells.newEntry newFields
 refine wpAny_bind (wpAny_newObj_type ?_ (hpl'.sizeOk5 _ _ _ _ _))
 have hx1:h₁.get? x=some ⟨.ref G.T.exc,some dx,.fields vs,sl⟩:=(hs₁.2.1 x λ q=>hfx (g4 x q)).trans hx
 generalize hob:({ cls:=.type "traceback",dict:=none,data:=.fields ([head,.ref L,.none,rawInt L,.none]++(if pl.isEmpty then List.replicate 6 Value.none else pl)).toArray }:Obj)=ob
 have hx2:=Heap.get?_push_of_some (h:=h₁) ob hx1
 refine wpAny_setField hx2 rfl (by lia) (h _ ?_ ?_ ?_)
 all_goals
  generalize hH:(h₁.push ob).update x (Obj.mapFields (·.setIfInBounds 1 (Value.ref h₁.objs.size)))=H3
  have hTx:h₁.objs.size≠x:=Nat.ne_of_gt (Heap.lt_size hx1)
  have keep:∀ b o,b≠x→b ∉ fr→s.heap.get? b=some o→H3.get? b=some o:=λ b o nb nf e=>by
   refine rwb (hH ..) ?_
   refine rwg (Heap.get?_update_other _ _ (Ne.symm nb) ..) ?_
   exact Heap.get?_push_of_some _ ((hs₁.2.1 b λ q=>nf (g4 b q)).trans e)
  have slots:∀ b∈fr,∀ o,s.heap.get? b=some o→∃ sl,H3.get? b=some { o with slots:=sl }:=λ b hb o e=>by
   obtain⟨sl,e'⟩:=hs₁.2.2 b o e
   refine⟨sl,?_⟩
   rw [← hH,Heap.get?_update_other _ _ (show x≠b by rintro rfl;exact hfx hb)]
   exact Heap.get?_push_of_some _ e'
  have hx3:H3.get? x=some ⟨.ref G.T.exc,some dx,.fields (vs.setIfInBounds 1 (Value.ref h₁.objs.size)),sl⟩:=by
   rw [← hH]
   exact Heap.get?_update_self _ hx2 rfl
  have hT3:H3.get? h₁.objs.size=some ob:=by
   refine rwb (hH ..) ?_
   refine rwg (Heap.get?_update_other _ _ (Ne.symm hTx) ..) ?_
   exact Heap.get?_push_size _ (by rw [← hob];rfl)
  have Z:=I.away (W:=λ b=>b=x) H.ne (h':=H3) (λ b q=>by
    cases hq:G.base.get? b with
    | none=>rfl
    | some o=>
     have:=S.gone (b:=b)
     have e1:=I₀.base b o hq
     rw [q,nx] at e1;cases e1) (λ b q=>q▸hox) (λ b o e q=>by
    clear hH hob E hadNext head M h hz ru hpl hdx n0 nx I S I₀ hfr hf H hpl' hs₁ g5 g4 g3 g2 g1 outer fenv hT3 hTx hx2 hx1 hox pl u n es Q p r L env
    subst q;rw [hx] at e;cases e
    exact⟨λ q=>(nomatch q),λ q=>(nomatch q)⟩) (λ b o w nf e=>keep b o w nf e) (λ b hb zz m e=>ns_slots (slots b hb) e) (λ b hb w=>absurd hb (w▸hfx)) (λ b o w zz=>⟨_,w▸hx3⟩)
  have SS:=S.fold I₀ Z.2 (λ b q=>q▸nx)
 ·exact SS
 ·exact Z.1
 ·have hdf:dx ∉ fr:=λ q=>by
   refine ex32 (I₀.frame q) λ o zz zz e zz=>?_
   rw [n0] at e;cases e
  have hdxx:dx≠x:=λ q=>by rw [q,hx] at hdx;cases hdx
  have M:Mild (λ b=>b=x) s.heap:=λ b o e q=>by
    clear hH hob E hadNext head h hz ru hpl hdx n0 nx I S I₀ hfr hf H hpl' hs₁ g5 g4 g3 g2 g1 outer fenv M hdxx hdf SS Z hT3 hx3 slots keep hTx hx2 hx1 hox hfx pl u n es Q p r L env h₁
    subst q;rw [hx] at e;cases e
    exact⟨λ q=>(nomatch q),λ q=>(nomatch q)⟩
  refine⟨nx,dx,_,es,n,sl,u,hx3,n0,keep _ _ hdxx hdf hdx,hpl,RepV.step I Z.2 M _ _ ru,by simpa using hz,.inr ⟨h₁.objs.size,_,_,(by rw [Array.getElem?_setIfInBounds_self_of_lt (by lia)]),?_,hTx,hT3,by rw [← hob],by rw [← hob],?_⟩⟩
  ·refine S.gone ?_
   cases hq:s.heap.get? h₁.objs.size with
   | none=>rfl
   | some o=>
    have:=Heap.lt_size hq
    rw [hs₁.1] at this
    exact absurd this (Nat.lt_irrefl _)
  ·simp only [List.size_toArray,List.length_append,List.length_cons,List.length_nil];lia
theorem note_wp (H:At A fr d) {M:Model} {env:Env} {L:Addr} {r:List Addr} {s:Shared} {x:Addr} {p:AV} {t:Bool} {Q:Unit→Shared→Prop} {E:Value→Shared→Prop} (hf:env.frame=some L) (hfr:fr=L :: r)
  (I₀:Inv G fr ι₀ σ₀ h₀) (S:Step W fr ι₀ ι h₀ s.heap) (I:Inv G fr ι σ s.heap) (F:Fly G ι h₀ s.heap x p t)
  (h:∀ h',Step W fr ι₀ ι h₀ h'→Inv G fr ι σ h'→Fly G ι h₀ h' x p true→Q () { s with heap:=h' }):wpAny M A (noteFrame (.ref x) env) Q E s:=by
 obtain⟨dx,vs,es,n,sl,u,hx,n0,hdx,hpl,ru,hz,tb⟩:=F.there
 unfold noteFrame
 simp only [hf]
 rcases tb with ⟨hv,_⟩ | ⟨T,oT,ts,hv,nT,hTx,hT,hTc,hTd,hts⟩
 ·refine wpAny_bind (wpAny_field hx rfl hv ?_)
  rw [if_neg (show ¬ ((Value.none != Value.none)=true) by decide)]
  exact entry_wp H hf hfr I₀ S I F.new hx n0 hdx hpl ru hz h
 ·refine wpAny_bind (wpAny_field hx rfl hv ?_)
  rw [if_pos (show (Value.ref T != Value.none)=true from by rfl)]
  obtain⟨fl,hfl⟩:∃ fl,ts[3]? = some fl:=⟨_,Array.getElem?_eq_getElem hts⟩
  refine wpAny_bind (wpAny_field hT hTd hfl ?_)
  by_cases hq:(fl == rawInt L)=true
  ·rw [if_pos hq]
   exact wpAny_pure (h _ S I ⟨F.new,dx,vs,es,n,sl,u,hx,n0,hdx,hpl,ru,hz,.inr ⟨T,oT,ts,hv,nT,hTx,hT,hTc,hTd,hts⟩⟩)
  ·rw [if_neg hq]
   refine wpAny_bind (wpAny_setField hT hTd hts ?_)
   have hTf:T ∉ fr:=(I.fieldsFree hT hTd).2
   have hTo:¬ Own ι T:=(I.fieldsFree hT hTd).1
   generalize hH:s.heap.update T (Obj.mapFields (·.setIfInBounds 3 Value.none))=H2
   have keep:∀ b o,b≠T→s.heap.get? b=some o→H2.get? b=some o:=λ b o nb e=>by
    rw [← hH,Heap.get?_update_other _ _ (Ne.symm nb)];exact e
   have hT2:∃ o',H2.get? T=some o':=by
    rw [← hH]
    exact⟨_,Heap.get?_update_self _ hT (Obj.isFreed_of_fields (Obj.data_mapFields hTd _))⟩
   have Mi:Mild (λ b=>b=T) s.heap:=λ b o e q=>by
     subst q;rw [hT] at e;cases e
     exact⟨λ q=>absurd (hTc.symm.trans q) (by decide),λ q=>absurd (hTc.symm.trans q) (by decide)⟩
   have Z:=I.away (W:=λ b=>b=T) H.ne (h':=H2) (λ b q=>by
     cases hq:G.base.get? b with
     | none=>rfl
     | some o=>have e1:=I₀.base b o hq;rw [q,nT] at e1;cases e1) (λ b q=>q▸hTo) Mi
    (λ b o w nf e=>keep b o w e) (λ b hb zz m e=>by
     obtain⟨o,es,ep,ho,r⟩:=e
     exact⟨o,es,ep,keep b o (λ q=>hTf (q▸hb)) ho,r⟩) (λ b hb w=>absurd hb (w▸hTf)) (λ b o w zz=>w▸hT2)
   have SS:=S.fold I₀ Z.2 (λ b q=>q▸nT)
   have hdT:dx≠T:=λ q=>by rw [q,hT] at hdx;cases hdx;cases hTd
   exact entry_wp (s:={ s with heap:=H2 }) H hf hfr I₀ SS Z.1 F.new (keep _ _ (Ne.symm hTx) hx) n0 (keep _ _ hdT hdx) hpl (RepV.step I Z.2 Mi _ _ ru) hz h
theorem flight_wp (H:At A fr d) {M:Model} {A':Around} {s:Shared} {x:Addr} {p:AV} {f:Option Addr} {Q:Unit→Shared→Prop} {E:Value→Shared→Prop}
  (I₀:Inv G fr ι₀ σ₀ h₀) (S:Step W fr ι₀ ι h₀ s.heap) (I:Inv G fr ι σ s.heap) (F:Fly G ι h₀ s.heap x p true)
  (h:∀ h',Step W fr ι₀ ι h₀ h'→Inv G fr ι σ h'→Fly G ι h₀ h' x p true→Q () { s with heap:=h' }):wpAny M A' (setFlight (.ref x) f) Q E s:=by
 obtain⟨dx,vs,es,n,sl,u,hx,n0,hdx,hpl,ru,hz,tb⟩:=F.there
 rcases tb with ⟨hv,q⟩ | ⟨T,oT,ts,hv,nT,hTx,hT,hTc,hTd,hts⟩
 ·cases q
 unfold setFlight
 refine wpAny_bind (wpAny_field hx rfl hv ?_)
 rw [if_pos (show (Value.ref T != Value.none)=true from by simp)]
 refine wpAny_setField hT hTd hts (h _ ?_ ?_ ?_)
 all_goals
  have hTf:T ∉ fr:=(I.fieldsFree hT hTd).2
  have hTo:¬ Own ι T:=(I.fieldsFree hT hTd).1
  generalize hH:s.heap.update T (Obj.mapFields (·.setIfInBounds 3 (f.elim .none λ f=>rawInt f)))=H2
  have keep:∀ b o,b≠T→s.heap.get? b=some o→H2.get? b=some o:=λ b o nb e=>by
   rw [← hH,Heap.get?_update_other _ _ (Ne.symm nb)];exact e
  have hT2:H2.get? T=some (Obj.mapFields (·.setIfInBounds 3 (f.elim .none λ f=>rawInt f)) oT):=by
   rw [← hH]
   exact Heap.get?_update_self _ hT (Obj.isFreed_of_fields (Obj.data_mapFields hTd _))
  have Mi:Mild (λ b=>b=T) s.heap:=λ b o e q=>by
    subst q;rw [hT] at e;cases e
    exact⟨λ q=>absurd (hTc.symm.trans q) (by decide),λ q=>absurd (hTc.symm.trans q) (by decide)⟩
  have Z:=I.away (W:=λ b=>b=T) H.ne (h':=H2) (λ b q=>by
    cases hq:G.base.get? b with
    | none=>rfl
    | some o=>have e1:=I₀.base b o hq;rw [q,nT] at e1;cases e1) (λ b q=>q▸hTo) Mi
   (λ b o w nf e=>keep b o w e) (λ b hb zz m e=>by
    obtain⟨o,es,ep,ho,r⟩:=e
    exact⟨o,es,ep,keep b o (λ q=>hTf (q▸hb)) ho,r⟩) (λ b hb w=>absurd hb (w▸hTf)) (λ b o w zz=>w▸⟨_,hT2⟩)
 ·exact S.fold I₀ Z.2 (λ b q=>q▸nT)
 ·exact Z.1
 ·have hdT:dx≠T:=λ q=>by rw [q,hT] at hdx;cases hdx;cases hTd
  exact⟨F.new,dx,vs,es,n,sl,u,keep _ _ (Ne.symm hTx) hx,n0,keep _ _ hdT hdx,hpl,RepV.step I Z.2 Mi _ _ ru,hz,.inr ⟨T,_,_,hv,nT,hTx,hT2,by rw [Obj.cls_mapFields];exact hTc,Obj.data_mapFields hTd _,by simpa using hts⟩⟩
theorem traced_field {M:Model} {s:Shared} {x:Addr} {p:AV} {Q:Value→Shared→Prop} {E:Value→Shared→Prop} (F:Fly G ι h₀ s.heap x p true) (h:∀ T,Q (.ref T) s):wpAny M A (field (.ref x) 1) Q E s:=by
 obtain⟨dx,vs,es,n,sl,u,hx,n0,hdx,hpl,ru,hz,tb⟩:=F.there
 rcases tb with ⟨hv,q⟩ | ⟨T,oT,ts,hv,nT,hTx,hT,hTc,hTd,hts⟩
 ·cases q
 ·exact wpAny_field hx rfl hv (h T)
theorem leaving_wp (H:At A fr d) {M:Model} {env:Env} {L:Addr} {r:List Addr} {s:Shared} {x:Addr} {p:AV} {t:Bool} {Q:Unit→Shared→Prop} {E:Value→Shared→Prop} (hf:env.frame=some L) (hfr:fr=L :: r)
  (I₀:Inv G fr ι₀ σ₀ h₀) (S:Step W fr ι₀ ι h₀ s.heap) (I:Inv G fr ι σ s.heap) (F:Fly G ι h₀ s.heap x p t)
  (h:∀ h',Step W fr ι₀ ι h₀ h'→Inv G fr ι σ h'→Fly G ι h₀ h' x p true→Q () { s with heap:=h' }):wpAny M A (leaving env (.ref x)) Q E s:=by
 unfold leaving
 exact wpAny_bind (note_wp H hf hfr I₀ S I F λ h' S' I' F'=>flight_wp (s:={ s with heap:=h' }) H I₀ S' I' F' h)
theorem cameBack_wp (H:At A fr d) {M:Model} {env:Env} {s:Shared} {x:Addr} {p:AV} {E:Value→Shared→Prop}
  (I₀:Inv G fr ι₀ σ₀ h₀) (S:Step W fr ι₀ ι h₀ s.heap) (I:Inv G fr ι σ s.heap) (F:Fly G ι h₀ s.heap x p true)
  (h:∀ h',Step W fr ι₀ ι h₀ h'→Inv G fr ι σ h'→Fly G ι h₀ h' x p true→E (.ref x) { s with heap:=h' }):cameBackBy M A env E (.ref x) s:=by
 refine wpAny_bind (traced_field F λ T=>?_)
 rw [if_neg (show ¬ ((Value.ref T == Value.none)=true) by simp)]
 exact flight_wp H I₀ S I F h
theorem passOn_wp (H:At A fr d) {M:Model} {α:Type} {env:Env} {what:String} {s:Shared} {x:Addr} {p:AV} {Q:α→Shared→Prop} {E:Value→Shared→Prop}
  (I₀:Inv G fr ι₀ σ₀ h₀) (S:Step W fr ι₀ ι h₀ s.heap) (I:Inv G fr ι σ s.heap) (F:Fly G ι h₀ s.heap x p true)
  (h:∀ h',Step W fr ι₀ ι h₀ h'→Inv G fr ι σ h'→Fly G ι h₀ h' x p true→E (.ref x) { s with heap:=h' }):wpAny M A (PySem.passOn what (.ref x) env:Sem α) Q E s:=by
 unfold PySem.passOn
 refine wpAny_bind (traced_field F λ T=>?_)
 rw [if_neg (show ¬ ((Value.ref T == Value.none)=true) by simp)]
 exact wpAny_bind (flight_wp H I₀ S I F λ h' a b c=>wpAny_throw (h h' a b c))
end
inductive ItAt (I:Addr) (ι:Img) (h:Heap):Src→Nat→Prop
 | lst {i:Nat} {p:Addr×Addr} {j:Nat}:ι[i]? = some p→h.IsListIter I p.1 j→ItAt I ι h (.lst i) j
 | rng {a b:Int} {j:Nat}:IsRangeIter h I (a + j) ((b - a).toNat - j) 1→ItAt I ι h (.items (rangeA a b)) j
 | asc {x:List Nat} {t:Tok} {j:Nat}:h.IsStrIter I "str_ascii_iterator" ⟨x.toArray⟩ t j→ItAt I ι h (.items (x.map λ c=>.str [c])) j
 | wid {x:List Nat} {t:Tok} {j:Nat}:h.IsStrIter I "str_iterator" ⟨x.toArray⟩ t j→ItAt I ι h (.items (x.map λ c=>.str [c])) j
section
variable {G:Gd} {A:Around} {fr:List Addr} {ι ι':Img} {σ:AH} {h h':Heap} {d:Nat} {I:Addr}
theorem ItAt.obj {src:Src} {j:Nat} (x:ItAt I ι h src j):∃ o vs,h.get? I=some o∧o.data = .fields vs∧o.cls≠.type "tuple"∧o.cls≠.type "range":=by
 cases x with
 | lst zz q=>obtain⟨o,h1,h2,h3⟩:=q;exact⟨o,_,h1,h3,by rw [h2];decide,by rw [h2];decide⟩
 | rng q=>exact⟨_,_,q,rfl,by show Value.type "range_iterator"≠_;decide,by show Value.type "range_iterator"≠_;decide⟩
 | asc q=>obtain⟨o,h1,h2,h3⟩:=q;exact⟨o,_,h1,h3,by rw [h2];decide,by rw [h2];decide⟩
 | wid q=>obtain⟨o,h1,h2,h3⟩:=q;exact⟨o,_,h1,h3,by rw [h2];decide,by rw [h2];decide⟩
theorem ItAt.keep {src:Src} {j:Nat} (x:ItAt I ι h src j) (hi:∀ (i:Nat) p,ι[i]? = some p→ι'[i]? = some p) (k:∀ o,h.get? I=some o→h'.get? I=some o):ItAt I ι' h' src j:=by
 cases x with
 | lst e q=>obtain⟨o,h1,r⟩:=q;exact .lst (hi _ _ e) ⟨o,k _ h1,r⟩
 | rng q=>exact .rng (k _ q)
 | asc q=>obtain⟨o,h1,r⟩:=q;exact .asc ⟨o,k _ h1,r⟩
 | wid q=>obtain⟨o,h1,r⟩:=q;exact .wid ⟨o,k _ h1,r⟩
theorem srcOf_cases {P:AV→PM Src→Prop} (hf:∀ {v},P v PM.fail) (h1:∀ i,P (.obj i) (lsO i>>=λ zz=>pure (.lst i))) (h2:∀ s,P (.str s) (pure (.items (s.map λ c=>.str [c])))) (h3:∀ a b,P (.rng a b) (if b - a≤maxLen then pure (.items (rangeA a b)) else PM.fail)):∀ v,P v (srcOf v):=by
 intro v
 cases v with
 | obj i=>exact h1 i
 | str s=>exact h2 s
 | rng a b=>exact h3 a b
 | _=>exact hf
theorem abs_fits {a:Int} (h:a.natAbs < 2 ^ 63):-9223372036854775808≤a∧a < 9223372036854775808:=by lia
theorem small_fits {a b:Int} (hs:Builtin.Range.rangeSize a b 1=((b - a).toNat:Int)) (ha:smallI a=true) (hb:smallI b=true) (hl:b - a≤maxLen):Builtin.Range.small a b 1=true:=by
 have ha':a.natAbs < 2 ^ 63:=by simpa [smallI] using ha
 have hb':b.natAbs < 2 ^ 63:=by simpa [smallI] using hb
 have hm:maxLen=1000000:=rfl
 unfold Builtin.Range.small
 rw [hs]
 simp [Builtin.Range.rangeFitsLong]
 have na:=abs_fits ha'
 have nb:=abs_fits hb'
 have h0:0≤max (b - a) 0:=Int.le_max_right _ _
 have h1:max (b - a) 0≤1000000:=Int.max_le.mpr ⟨hl,by decide⟩
 exact⟨⟨⟨na,nb⟩,Int.le_trans (by decide) h0,Int.lt_of_le_of_lt h1 (by decide)⟩,.inr nb⟩
theorem iter_start {s:Shared} {v:AV} {u:Value} {src:Src} {σ':AH} {Q:Value→Shared→Prop} {E:Value→Shared→Prop} (I₀:Inv G fr ι σ s.heap) (hv:RepV G ι s.heap v u) (e:srcOf v σ=some (.ok src,σ'))
  (h:∀ I h',σ'=σ→(∀ b o,s.heap.get? b=some o→h'.get? b=some o)→s.heap.get? I=none→ItAt I ι h' src 0→Q (.ref I) { s with heap:=h' }):wpAny (model G.prog G.w) A (pyIter u) Q E s:=by
 have kp:∀ (o:Obj) b q,s.heap.get? b=some q→(s.heap.push o).get? b=some q:=λ o b q e=>Heap.get?_push_of_some _ e
 revert e hv
 refine srcOf_cases (P:=λ v m=>RepV G ι s.heap v u→m σ=some (.ok src,σ')→wpAny (model G.prog G.w) A (pyIter u) Q E s) (λ zz e=>no_none e) ?_ ?_ ?_ v
 ·intro i hv e
  refine ex12 (bind_lst e) λ l hl e=>?_
  cases e
  refine ex12 (hv) λ p hp rr2=>?_
  subst rr2
  obtain⟨_,vs,i1,r1⟩:=I₀.lst hl hp
  exact wpAny_pyIter_list i1 (h _ _ rfl (kp _) (get_size _) (.lst hp ⟨_,Heap.get?_push_size _ rfl,rfl,rfl⟩))
 ·rintro x ⟨_,t,rfl⟩ e
  cases e
  cases ha:(⟨x.toArray⟩:Str).cps.all (· < 128)
  ·exact wpAny_pyIter_wide ha (h _ _ rfl (kp _) (get_size _) (.wid ⟨_,Heap.get?_push_size _ rfl,rfl,rfl⟩))
  ·exact wpAny_pyIter_ascii ha (h _ _ rfl (kp _) (get_size _) (.asc ⟨_,Heap.get?_push_size _ rfl,rfl,rfl⟩))
 ·rintro a b ⟨a0,t,u,c,rfl,hr,ha,hb⟩ e
  by_cases hle:b - a≤maxLen
  ·rw [if_pos hle] at e
   cases e
   have hs2:Builtin.Range.rangeSize a b 1=((b - a).toNat:Int):=by rw [rangeSize_one a b];split<;>lia
   refine wpAny_pyIter_range hr ?_ ?_
   ·exact small_fits hs2 ha hb hle
   ·refine h _ _ rfl (kp _) (get_size _) (.rng ?_)
    refine rwg (hs2 ..) ?_
    have:IsRangeIter (s.heap.push { cls:=.type "range_iterator",data:=.fields #[rawInt a,rawInt ((b - a).toNat:Int),rawInt 1] }) s.heap.objs.size a ((b - a).toNat:Int) 1:=Heap.get?_push_size _ rfl
    simpa using this
  ·rw [if_neg hle] at e;cases e
set_option tactic.hygienic true in
theorem iter_next (H:At A fr d) {s:Shared} {src:Src} {j:Nat} {nx:Option AV} {Q:Option Value→Shared→Prop} {E:Value→Shared→Prop} (I₀:Inv G fr ι σ s.heap) (x:ItAt I ι s.heap src j) (e:nextA σ src j=some nx)
  (hend:nx=none→∀ h',(∀ b o,b≠I→s.heap.get? b=some o→h'.get? b=some o)→Q none { s with heap:=h' })
  (hmore:∀ v,nx=some v→∀ h' tk u,s.toks≤tk→RepV G ι s.heap v u→ItAt I ι h' src (j + 1)→(∀ b o,b≠I→s.heap.get? b=some o→h'.get? b=some o)→Q (some u) { s with heap:=h',toks:=tk }):
  wpAny (model G.prog G.w) A (pyNext (.ref I)) Q E s:=by
 have hh:=H.handled
 have ext:∀ {h':Heap},Heap.SameBut I s.heap h'→∀ b o,b≠I→s.heap.get? b=some o→h'.get? b=some o:=λ hs b o n e=>(hs.2 b n).trans e
 have ext2:∀ {h':Heap},Heap.ExtBut I s.heap h'→∀ b o,b≠I→s.heap.get? b=some o→h'.get? b=some o:=λ hs b o n e=>hs b o n e
 cases x with
 | @lst i p zz hp q=>
  unfold nextA at e
  dsimp only at e
  split at e
  ·rename_i l hl
   cases e
   obtain⟨_,vs,i1,r1⟩:=I₀.lst hl hp
   cases hj:l[j]? with
   | none=>
    have hv:(List.toArray vs)[j]? = none:=by
     have:=List.getElem?_eq_none_iff.mp hj
     simp only [List.getElem?_toArray]
     rw [List.getElem?_eq_none_iff,r1.length];exact this
    exact wpAny_pyNext_list_end hh q i1 hv λ h' hs=>hend hj h' (ext2 hs)
   | some v=>
    refine ex12 (r1.get hj) λ u hu ru=>?_
    exact wpAny_pyNext_list_item q i1 (by simpa using hu) λ h' q' hs=>hmore v hj h' s.toks u (Nat.le_refl _) ru (.lst hp q') (ext hs)
  ·cases e
 | @rng a b zz q=>
  cases e
  by_cases hj:j < (b - a).toNat
  ·have hv:(rangeA a b)[j]? = some (.int (a + j)):=by simp [rangeA,hj]
   refine wpAny_pyNext_range_item q (by lia) λ h' q' hs=>hmore _ hv h' _ _ (Nat.le_succ _) (⟨_,rfl⟩) (.rng ?_) (ext hs)
   rw [(by lia:(a + (j:Int)) + 1=a + ((j + 1:Nat):Int)),(by lia:(((b - a).toNat:Nat):Int) - (j:Int) - 1=((b - a).toNat:Int) - ((j + 1:Nat):Int))] at q'
   exact q'
  ·have hv:(rangeA a b)[j]? = none:=by simp [rangeA];lia
   exact wpAny_pyNext_range_end hh q (by lia) λ h' hs=>hend hv h' (ext2 hs)
 | @asc y t zz q=>
  cases e
  cases hj:y[j]? with
  | none=>exact wpAny_pyNext_ascii_end hh q (by simpa using hj) λ h' hs=>hend (by rw [List.getElem?_map,hj];rfl) h' (ext2 hs)
  | some c=>
   refine wpAny_pyNext_ascii_item q (c:=c) (by simpa using hj) λ h' q' hs=>hmore (.str [c]) (by rw [List.getElem?_map,hj];rfl) h' _ _ (Nat.le_succ _) ?_ (.asc q') (ext hs)
   exact⟨by show 1≤1000000;decide,_,rfl⟩
 | @wid y t zz q=>
  cases e
  cases hj:y[j]? with
  | none=>exact wpAny_pyNext_wide_end hh q (by simpa using hj) λ h' hs=>hend (by rw [List.getElem?_map,hj];rfl) h' (ext2 hs)
  | some c=>
   refine wpAny_pyNext_wide_item q (c:=c) (by simpa using hj) λ h' q' hs=>hmore (.str [c]) (by rw [List.getElem?_map,hj];rfl) h' _ _ (Nat.le_succ _) ?_ (.wid q') (ext hs)
   exact⟨by show 1≤1000000;decide,_,rfl⟩
end
section
variable {G:Gd} {A:Around} {fr:List Addr} {ι ι':Img} {σ:AH} {h h':Heap} {d:Nat} {env:Env} {P:Img→Heap→Prop} {β:Type}
theorem Inv.adopt (I:Inv G fr ι σ h) {p:Addr×Addr} {o:AO} (f1:¬ Own ι p.1) (f2:¬ Own ι p.2) (b1:G.base.get? p.1=none) (b2:G.base.get? p.2=none) (n1:p.1 ∉ fr) (n2:p.2 ∉ fr)
  (hr:RepO G (ι++[p]) h p o):Inv G fr (ι++[p]) (σ++[o]) h:=by
 have hi:∀ (i:Nat) q,ι[i]? = some q→(ι++[p])[i]? = some q:=λ i q e=>by rw [List.getElem?_append_left (List.getElem?_eq_some_iff.mp e).1];exact e
 have off:∀ q∈ι,q.1≠p.1∧q.1≠p.2∧q.2≠p.1∧q.2≠p.2:=λ q hq=>
  ⟨λ z=>f1 ⟨q,hq,.inl z.symm⟩,λ z=>f2 ⟨q,hq,.inl z.symm⟩,λ z=>f1 ⟨q,hq,.inr z.symm⟩,λ z=>f2 ⟨q,hq,.inr z.symm⟩⟩
 have cases_:∀ k (x:Addr×Addr),(ι++[p])[k]? = some x→(k < ι.length∧ι[k]? = some x)∨(k=ι.length∧x=p):=λ k x e=>by
  by_cases hk:k < ι.length
  ·rw [List.getElem?_append_left hk] at e;exact .inl ⟨hk,e⟩
  ·rw [List.getElem?_append_right (by lia)] at e
   have:=(List.getElem?_eq_some_iff.mp e).1
   simp at this
   have hk':k=ι.length:=by lia
   subst hk'
   simp at e
   exact .inr ⟨rfl,e.symm⟩
 refine⟨by simp [I.len],λ j o' q e1 e2=>?_,λ i j q r hij e1 e2=>?_,λ q hq=>?_,I.base,I.size,λ b hb=>⟨(I.frames b hb).1,?_,(I.frames b hb).2.2⟩⟩
 ·rcases cases_ j q e2 with ⟨hj,e2'⟩ | ⟨hj,rfl⟩
  ·rw [List.getElem?_append_left (by rw [← I.len];exact hj)] at e1
   have R:=I.at_ j o' q e1 e2'
   clear hr n2 n1 b2 b1 f2 f1 I e2 e1 cases_ off e2' hj o j
   cases o' with
   | list l=>obtain⟨a,b,vs,c,e⟩:=R;exact⟨a,b,vs,c,RepVs.mono hi (λ zz zz e=>e) _ _ e⟩
   | inst C fs=>
    obtain⟨a,b,es,n,c,e⟩:=R
    refine⟨a,b,es,n,c,?_⟩
    have key:∀ (l:List (Str×AV)) (es:List DictEntry),RepKv G ι h l es→RepKv G (ι++[p]) h l es:=by
     intro l
     induction l with
     | nil=>intro es x;cases es<;>exact x
     | cons q r ih=>intro es x;cases es with
      | nil=>exact x
      | cons e es=>exact⟨x.1,x.2.1,RepV.mono hi (λ zz zz e=>e) _ _ x.2.2.1,ih es x.2.2.2⟩
    exact key _ _ e
   | dict fs=>obtain⟨a,b,kvs,c,e,r⟩:=R;exact⟨a,b,kvs,c,e,RepVs.mono hi (λ zz zz e=>e) _ _ r⟩
  ·have hj':j=σ.length:=by rw [← I.len];exact hj
   clear n2 n1 b2 b1 f2 f1 I e2 cases_ off hi hj
   subst hj'
   simp at e1
   subst e1
   exact hr
 ·rcases cases_ i q e1 with ⟨h1,g1⟩ | ⟨h1,g1⟩
  ·rcases cases_ j r e2 with ⟨h2,g2⟩ | ⟨h2,g2⟩
   ·exact I.apart i j q r hij g1 g2
   ·have:=off q (List.mem_of_getElem? g1)
    rw [g2]
    exact⟨this.1,this.2.1,this.2.2.2⟩
  ·rcases cases_ j r e2 with ⟨h2,g2⟩ | ⟨h2,g2⟩
   ·have:=off r (List.mem_of_getElem? g2)
    rw [g1]
    exact⟨Ne.symm this.1,Ne.symm this.2.2.1,Ne.symm this.2.2.2⟩
   ·lia
 ·clear hr n2 n1 f2 f1 cases_ off hi o
  rcases List.mem_append.mp hq with hq | hq
  ·exact I.new q hq
  ·simp at hq;subst hq;exact⟨b1,b2⟩
 ·rw [Own.app]
  clear hr b2 b1 f2 f1 cases_ off hi o
  rintro (z | ⟨q,hq,z⟩)
  ·exact (I.frames b hb).2.1 z
  ·simp at hq
   subst hq
   rcases z with rfl | rfl
   ·exact n1 hb
   ·exact n2 hb
theorem Step.adopt {W:Addr→Prop} {h₀:Heap} {ι₀:Img} (S:Step W fr ι₀ ι h₀ h) {p:Addr×Addr} (f1:h₀.get? p.1=none) (f2:h₀.get? p.2=none):Step W fr ι₀ (ι++[p]) h₀ h:=by
 refine ex12 (S.ext) λ more rr1 hm=>?_
 subst rr1
 refine⟨⟨more++[p],by rw [List.append_assoc],λ q hq=>?_⟩,S.keep,S.ns,S.alive⟩
 rcases List.mem_append.mp hq with hq | hq
 ·exact hm q hq
 ·simp at hq;subst hq;exact⟨f1,f2⟩
theorem Pers.at {a:Addr} {o:Obj} (ha:a ∉ fr):Pers G fr (λ ι h=>h.get? a=some o∧¬ Own ι a):=λ zz zz zz zz zz zz S q=>
 ⟨S.keep _ _ q.1 q.2 ha λ w=>w.elim,S.notOwn q.1 q.2⟩
theorem Snd.ite {c:Prop} [Decidable c] {t:Sem β} {γ:Type} {m:PM γ} {R:γ→β→Img→Heap→Prop} (x:c→Snd G A fr P t m R):Snd G A fr P t (if c then m else PM.fail) R:=by
 by_cases hc:c
 ·rw [if_pos hc];exact x hc
 ·rw [if_neg hc];exact Snd.fail
theorem each_map (env:Env):∀ es:List Expr,evalEach es env=es.map λ e=>eval e env
 | []=>rfl
 | e :: r=>by rw [List.map_cons,← each_map env r];rfl
theorem bool_snd (hP:Pers G fr P) {pos:Pos} {op:BoolOp} (m:Expr→PM AV):∀ {es:List Expr},(∀ e∈es,Snd G A fr P (eval e env) (m e) (RV G))→Snd G A fr P (boolOp pos op (es.map λ e=>eval e env)) (boolA op (es.map m)) (RV G)
 | [],zz=>Snd.fail
 | [e],H=>H e (.head _)
 | e :: e' :: r,H=>by
  show Snd G A fr P (eval e env>>=λ v=>standAt pos>>=λ zz=>holding [v] (truthy v)>>=λ t=>_)
   (m e>>=λ v=>truthA v>>=λ b=>(match op,b with
   | .And,false=>pure v
   | .Or,true=>pure v
   | zz,zy=>boolA op ((e' :: r).map m))) (RV G)
  refine Snd.bind hP (H e (.head _)) λ a v=>?_
  refine Snd.at_ ?_
  refine Snd.bind (hP.and (Pers.rep a v)) (Snd.holding ((truth_snd a v).pre λ zz zz q=>q)) λ b t=>?_
  intro ι σ s r' σ' ht I hp e
  obtain⟨hp,rfl⟩:=hp
  have fin:Snd G A fr (λ ι h=>P ι h∧RV G a v ι h) (pure v) (pure a) (RV G):=Snd.pure λ zz zz q=>q.2
  have go:Snd G A fr (λ ι h=>P ι h∧RV G a v ι h) (boolOp pos op ((e' :: r).map λ e=>eval e env)) (boolA op ((e' :: r).map m)) (RV G):=(bool_snd hP m λ e he=>H e (.tail _ he)).pre λ zz zz q=>q.1
  cases op<;>cases t
  ·exact fin ι σ s r' σ' ht I hp e
  ·exact go ι σ s r' σ' ht I hp e
  ·exact go ι σ s r' σ' ht I hp e
  ·exact fin ι σ s r' σ' ht I hp e
theorem chain_snd (hu:A.units + 1 < cLine) (hP:Pers G fr P) {pos:Pos} (m:Expr→PM AV):∀ {ops:List CmpOp} {es:List Expr} {a:AV} {left:Value},(∀ e∈es,Snd G A fr P (eval e env) (m e) (RV G)) →
  Snd G A fr (λ ι h=>P ι h∧RV G a left ι h) (compareChain pos left ops (es.map λ e=>eval e env)) (chainA a ops (es.map m)) RBv
 | [],zz,zy,zx,zw=>by
  intro ι σ s r σ' ht I hp e
  unfold chainA at e
  cases e
 | _ :: _,[],_,_,_=>by
  intro ι σ s r σ' ht I hp e
  unfold chainA at e
  cases e
 | op :: ops,e0 :: es,a,left,H=>by
  have hP0:Pers G fr (λ ι h=>P ι h∧RV G a left ι h):=hP.and (Pers.rep a left)
  cases ops with
  | nil=>cases es with
   | cons=>intro ι σ s r σ' ht I hp e;simp only [List.map_cons,chainA] at e;cases e
   | nil=>
    show Snd G A fr _ (holding [left] (eval e0 env)>>=λ rv=>standAt pos>>=λ zz=>PySem.operate [left,rv] (compareOp op left rv)) (m e0>>=λ b=>cmpA op a b) RBv
    refine Snd.bind hP0 (Snd.holding ((H e0 (.head _)).pre λ zz zz q=>q.1)) λ b rv=>?_
    exact Snd.at_ (Snd.operate ((cmp_snd hu op a b left rv).pre λ zz zz q=>⟨q.1.2,q.2⟩))
  | cons op' ops'=>
   show Snd G A fr _ (holding [left] (eval e0 env)>>=λ rv=>standAt pos>>=λ zz=>holding [left,rv] (compareOp op left rv)>>=λ c=>release [left,rv] [c]>>=λ zz=>
    holding [c,rv] (truthy c)>>=λ t=>if t=true then compareChain pos rv (op' :: ops') (es.map λ e=>eval e env) else pure c)
    (m e0>>=λ b=>cmpA op a b>>=λ c=>(match c with | true=>chainA b (op' :: ops') (es.map m) | false=>pure false)) RBv
   refine Snd.bind hP0 (Snd.holding ((H e0 (.head _)).pre λ zz zz q=>q.1)) λ b rv=>?_
   refine Snd.at_ ?_
   refine Snd.bind (hP0.and (Pers.rep b rv)) (Snd.holding ((cmp_snd hu op a b left rv).pre λ zz zz q=>⟨q.1.2,q.2⟩)) λ c cv=>?_
   intro ι σ s r σ' ht I hp e
   obtain⟨hp,rfl⟩:=hp
   refine wpAny_bind (wp_release (wpAny_bind (wpAny_holding (wpAny_truthy_bool ?_))))
   cases c with
   | true=>
    refine rwg (if_pos rfl ..) ?_
    exact (chain_snd hu hP m (a:=b) (left:=rv) λ e he=>H e (.tail _ he)) ι σ s r σ' ht I ⟨hp.1.1,hp.2⟩ e
   | false=>
    rw [if_neg (by decide)]
    exact (Snd.pure (P:=λ zz zz=>True) (b:=false) (v:=Value.bool false) (R:=RBv) λ zz zz zz=>rfl) ι σ s r σ' ht I trivial e
theorem test_snd (hu:A.units + 1 < cLine) (hP:Pers G fr P) {pos:Pos} (m:Expr→PM AV):∀ {ops:List CmpOp} {es:List Expr} {a:AV} {left:Value},(∀ e∈es,Snd G A fr P (eval e env) (m e) (RV G)) →
  Snd G A fr (λ ι h=>P ι h∧RV G a left ι h) (testChain pos left ops (es.map λ e=>eval e env)) (chainA a ops (es.map m)) RB
 | [],zz,zy,zx,zw=>by
  intro ι σ s r σ' ht I hp e
  unfold chainA at e
  cases e
 | _ :: _,[],_,_,_=>by
  intro ι σ s r σ' ht I hp e
  unfold chainA at e
  cases e
 | op :: ops,e0 :: es,a,left,H=>by
  have hP0:Pers G fr (λ ι h=>P ι h∧RV G a left ι h):=hP.and (Pers.rep a left)
  cases ops with
  | nil=>cases es with
   | cons=>intro ι σ s r σ' ht I hp e;simp only [List.map_cons,chainA] at e;cases e
   | nil=>
    show Snd G A fr _ (holding [left] (eval e0 env)>>=λ rv=>standAt pos>>=λ zz=>PySem.operate [left,rv] (compareOp op left rv)>>=λ c=>holding [c] (truthy c)) (m e0>>=λ b=>cmpA op a b) RB
    refine Snd.bind hP0 (Snd.holding ((H e0 (.head _)).pre λ zz zz q=>q.1)) λ b rv=>?_
    refine Snd.at_ ?_
    intro ι σ s r σ' ht I hp e
    refine wpAny_bind (wpAny_mono ((Snd.operate (cmp_snd hu op a b left rv)) ι σ s r σ' ht I ⟨hp.1.2,hp.2⟩ e) ?_ λ zz zz q=>q)
    clear pos hP hu hP0 e hp I ht σ left a b rv
    rintro v s' ⟨c,rfl,h',tk,ι',rfl,S,I',rfl⟩
    exact wpAny_holding (wpAny_truthy_bool ⟨c,rfl,h',tk,ι',rfl,S,I',rfl⟩)
  | cons op' ops'=>
   show Snd G A fr _ (holding [left] (eval e0 env)>>=λ rv=>standAt pos>>=λ zz=>holding [left,rv] (compareOp op left rv)>>=λ c=>release [left,rv] [c]>>=λ zz=>
    holding [c,rv] (truthy c)>>=λ t=>if t=true then testChain pos rv (op' :: ops') (es.map λ e=>eval e env) else pure false)
    (m e0>>=λ b=>cmpA op a b>>=λ c=>(match c with | true=>chainA b (op' :: ops') (es.map m) | false=>pure false)) RB
   refine Snd.bind hP0 (Snd.holding ((H e0 (.head _)).pre λ zz zz q=>q.1)) λ b rv=>?_
   refine Snd.at_ ?_
   refine Snd.bind (hP0.and (Pers.rep b rv)) (Snd.holding ((cmp_snd hu op a b left rv).pre λ zz zz q=>⟨q.1.2,q.2⟩)) λ c cv=>?_
   intro ι σ s r σ' ht I hp e
   obtain⟨hp,rfl⟩:=hp
   refine wpAny_bind (wp_release (wpAny_bind (wpAny_holding (wpAny_truthy_bool ?_))))
   cases c with
   | true=>
    refine rwg (if_pos rfl ..) ?_
    exact (test_snd hu hP m (a:=b) (left:=rv) λ e he=>H e (.tail _ he)) ι σ s r σ' ht I ⟨hp.1.1,hp.2⟩ e
   | false=>
    rw [if_neg (by decide)]
    exact (Snd.pure (P:=λ zz zz=>True) (b:=false) (v:=false) (R:=RB) λ zz zz zz=>rfl) ι σ s r σ' ht I trivial e
theorem allTrue_snd (hP:Pers G fr P) {op:BoolOp} (m:Expr→PM Bool):∀ {es:List Expr},(∀ e∈es,Snd G A fr P (isTrue e env (eval e env)) (m e) RB)→Snd G A fr P (allTrue op es env) (boolT op (es.map m)) RB
 | [],zz=>Snd.pure λ zz zz zz=>rfl
 | e :: r,H=>by
  show Snd G A fr P (isTrue e env (eval e env)>>=λ t=>_)
   (m e>>=λ b=>(match op,b with
   | .And,false=>pure false
   | .Or,true=>pure true
   | zz,zy=>boolT op (r.map m))) RB
  refine Snd.bind hP (H e (.head _)) λ b t=>?_
  intro ι σ s r' σ' ht I hp e
  obtain⟨hp,rfl⟩:=hp
  have go:Snd G A fr P (allTrue op r env) (boolT op (r.map m)) RB:=allTrue_snd hP m λ e he=>H e (.tail _ he)
  cases op<;>cases t
  ·exact (Snd.pure (P:=λ zz zz=>True) (b:=false) (v:=false) (R:=RB) λ zz zz zz=>rfl) ι σ s r' σ' ht I trivial e
  ·exact go ι σ s r' σ' ht I hp e
  ·exact go ι σ s r' σ' ht I hp e
  ·exact (Snd.pure (P:=λ zz zz=>True) (b:=true) (v:=true) (R:=RB) λ zz zz zz=>rfl) ι σ s r' σ' ht I trivial e
theorem ifs_false:∀ (ifs:List Expr),(forIn ifs false λ c r=>if r=true then do let ok ← isTrue c env (eval c env);pure (ForInStep.yield ok) else pure (ForInStep.yield r):Sem Bool)=pure false
 | []=>rfl
 | e :: r=>by
  refine rwg (List.forIn_cons ..) ?_
  exact ifs_false r
theorem ifs_snd (hP:Pers G fr P) (m:Expr→PM Bool):∀ {ifs:List Expr},(∀ e∈ifs,Snd G A fr P (isTrue e env (eval e env)) (m e) RB) →
  Snd G A fr P (forIn ifs true λ c r=>if r=true then do let ok ← isTrue c env (eval c env);pure (ForInStep.yield ok) else pure (ForInStep.yield r)) (boolT .And (ifs.map m)) RB
 | [],zz=>Snd.pure λ zz zz zz=>rfl
 | e :: r,H=>by
  rw [List.forIn_cons]
  show Snd G A fr P ((isTrue e env (eval e env)>>=λ ok=>pure (ForInStep.yield ok))>>=_) (m e>>=λ b=>(match BoolOp.And,b with
   | .And,false=>pure false
   | .Or,true=>pure true
   | zz,zy=>boolT .And (r.map m))) RB
  have x:=H e (.head _)
  intro ι σ s r' σ' ht I hp e0
  refine wpAny_bind (wpAny_bind ?_)
  have e':PM.andThen (m e) _ σ=some (r',σ'):=e0
  unfold PM.andThen at e'
  cases hm:m e σ with
  | none=>rw [hm] at e';cases e'
  | some q=>
   obtain⟨q,σ₁⟩:=q
   rw [hm] at e'
   cases q with
   | error p=>
    cases e'
    refine wpAny_mono (x ι σ s _ _ ht I hp hm) ?_ ?_
    ·rintro v s' ⟨b,q,_⟩;cases q
    ·rintro e s' ⟨p',q,o⟩;cases q;exact⟨_,rfl,o⟩
   | ok b=>
    refine wpAny_mono (wpAny_toks (x ι σ s _ _ ht I hp hm)) ?_ ?_
    ·rintro v s' ⟨⟨b',q,h₁,tk,ι₁,rfl,S,I₁,hr⟩,htk⟩
     cases q
     have hr':v=b:=hr
     subst hr'
     refine wpAny_pure ?_
     cases v with
     | true=>
      refine wpAny_mono ((ifs_snd hP m λ e he=>H e (.tail _ he)) ι₁ σ₁ _ r' σ' (Nat.lt_of_lt_of_le ht htk) I₁ (hP _ _ _ _ _ I S hp) e') ?_ ?_
      ·rintro v' s'' ⟨b',e,o⟩;exact⟨b',e,o.after S⟩
      ·rintro v' s'' ⟨p,e,o⟩;exact⟨p,e,o.after S⟩
     | false=>
      have e2:(some (.ok false,σ₁):Option (Except AV Bool×AH))=some (r',σ'):=e'
      clear hP e' x htk hr e0 hp I ht
      cases e2
      refine wpAny_of_eq (ifs_false (env:=env) r) ?_
      exact⟨false,rfl,h₁,tk,ι₁,rfl,S,I₁,rfl⟩
    ·rintro v s' ⟨⟨p,q,_⟩,_⟩;cases q
end
section
variable {G:Gd} {A:Around} {fr:List Addr} {ι ι':Img} {σ:AH} {h h':Heap} {d:Nat} {env:Env} {P:Img→Heap→Prop} {β:Type}
theorem lookup_mem {x:Str} {k:NameKind}:∀ {l:List (Str×NameKind)},l.lookup x=some k→(x,k)∈l
 | (y,j) :: r,h=>by
  rw [List.lookup_cons] at h
  cases hb:x == y with
  | true=>rw [hb] at h;cases h;rw [beq_iff_eq.mp hb];exact .head _
  | false=>rw [hb] at h;exact .tail _ (lookup_mem h)
 | [],h=>by cases h
theorem lookup_nodup {x:Str} {k:NameKind}:∀ {l:List (Str×NameKind)},(l.map (·.1)).Nodup→(x,k)∈l→l.lookup x=some k
 | (y,j) :: r,hn,h=>by
  rw [List.map_cons,List.nodup_cons] at hn
  rw [List.lookup_cons]
  rcases List.mem_cons.mp h with h1 | h1
  ·cases h1;simp
  ·have:(x == y)=false:=by
    rw [beq_eq_false_iff_ne];intro q
    exact hn.1 (List.mem_map.mpr ⟨(x,k),h1,q⟩)
   refine rwg (this ..) ?_
   exact lookup_nodup hn.2 h1
 | [],zz,h=>by cases h
theorem relabel_lookup {x:Str}:∀ {l:List (Str×NameKind)},(l.map λ (n,k)=>if (k == NameKind.free && env.scope.kind == .function && env.kindOf n == some .cell) then (n,NameKind.cell) else (n,k)).lookup x =
  (l.lookup x).map λ k=>if (k == NameKind.free && env.scope.kind == .function && env.kindOf x == some .cell) then NameKind.cell else k
 | []=>rfl
 | (n,k) :: r=>by
  rw [List.map_cons,List.lookup_cons]
  cases hx:x == n with
  | true=>
   have e:x=n:=beq_iff_eq.mp hx
   subst e
   by_cases hc:(k == NameKind.free && env.scope.kind == .function && env.kindOf x == some .cell)=true
   ·simp only [hc,if_true,List.lookup_cons,beq_self_eq_true,Option.map_some]
   ·simp only [hc,if_false,List.lookup_cons,beq_self_eq_true,Option.map_some]
    simp
  | false=>
   have ih:=relabel_lookup (x:=x) (l:=r)
   dsimp only
   by_cases hc:(k == NameKind.free && env.scope.kind == .function && env.kindOf n == some .cell)=true
   ·rw [if_pos hc,List.lookup_cons,hx];exact ih
   ·rw [if_neg hc,List.lookup_cons,hx];exact ih
theorem clos_of (sc:Scope) (env:Env) (hn:(sc.names.map (·.1)).Nodup) (hc:∀ x,sc.names.lookup x=some .free→∃ c,env.cells.lookup x=some c):
  ∃ cl,closureFor sc env=pure cl∧(∀ x c,cl.lookup x=some c→sc.names.lookup x=some .free∧env.cells.lookup x=some c)∧∀ x,sc.names.lookup x=some .free→∃ c,cl.lookup x=some c:=by
 have key:∀ (l:List (Str×NameKind)) (acc:List (Str×Addr)),(∀ p∈l,p∈sc.names)→(∀ x c,acc.lookup x=some c→sc.names.lookup x=some .free∧env.cells.lookup x=some c) →
   ∃ cl,(forIn l acc (λ (p:Str×NameKind) (cs:List (Str×Addr))=>if p.2 == .free then (do let a ← cellOf env p.1;pure (ForInStep.yield ((p.1,a) :: cs))) else pure (ForInStep.yield cs)):Sem (List (Str×Addr)))=pure cl ∧
    (∀ x c,cl.lookup x=some c→sc.names.lookup x=some .free∧env.cells.lookup x=some c)∧(∀ x c,acc.lookup x=some c→∃ c,cl.lookup x=some c)∧∀ x,(x,NameKind.free)∈l→∃ c,cl.lookup x=some c:=by
  intro l
  induction l with
  | nil=>intro acc _ h;exact⟨acc,rfl,h,λ x c e=>⟨c,e⟩,λ x h=>by cases h⟩
  | cons p r ih=>
   intro acc hs h
   obtain⟨n,k⟩:=p
   refine rwg (List.forIn_cons ..) ?_
   by_cases hk:k = .free
   ·subst hk
    have hl:sc.names.lookup n=some .free:=lookup_nodup hn (hs _ (.head _))
    refine Exists.elim (hc n hl) λ a ha=>?_
    have e1:cellOf env n=pure a:=by unfold cellOf;rw [ha]
    simp only [beq_self_eq_true,if_true,e1,pure_bind]
    obtain⟨cl,c1,c2,c3,c4⟩:=ih ((n,a) :: acc) (λ p hp=>hs p (.tail _ hp)) (λ x c e=>by
     rw [List.lookup_cons] at e
     cases hx:x == n with
     | true=>rw [hx] at e;cases e;rw [beq_iff_eq.mp hx];exact⟨hl,ha⟩
     | false=>rw [hx] at e;exact h x c e)
    refine⟨cl,c1,c2,λ x c e=>?_,λ x hx=>?_⟩
    ·cases hx:x == n with
     | true=>exact c3 x a (by rw [List.lookup_cons,hx])
     | false=>exact c3 x c (by rw [List.lookup_cons,hx];exact e)
    ·rcases List.mem_cons.mp hx with hx | hx
     ·cases hx;exact c3 n a (by simp [List.lookup_cons])
     ·exact c4 x hx
   ·have hkf:(k == NameKind.free)=false:=by rw [beq_eq_false_iff_ne];exact hk
    simp only [hkf,Bool.false_eq_true,if_false,pure_bind]
    refine ex14 (ih acc (λ p hp=>hs p (.tail _ hp)) h) λ cl c1 c2 c3 c4=>?_
    refine⟨cl,c1,c2,c3,λ x hx=>?_⟩
    clear ih hc hn hkf hs h c3 c2 c1 env sc acc
    rcases List.mem_cons.mp hx with hx | hx
    ·cases hx;exact absurd rfl hk
    ·exact c4 x hx
 obtain⟨cl,c1,c2,_,c4⟩:=key sc.names [] (λ zz h=>h) (λ x c e=>by cases e)
 refine⟨cl,?_,c2,λ x hx=>c4 x (lookup_mem hx)⟩
 unfold closureFor
 have:(forIn sc.names ([]:List (Str×Addr)) λ (x:Str×NameKind) (r:List (Str×Addr))=>match x with
   | (name,kind)=>if (kind == .free)=true then (do let a ← cellOf env name;pure (ForInStep.yield ((name,a) :: r))) else pure (ForInStep.yield r):Sem (List (Str×Addr)))=pure cl:=c1
 first | (simp only [bind_pure];exact this) | exact this
theorem En.comp {sc sc':Scope} {x:Str} {cl:List (Str×Addr)} {C:Addr} (X:En env sc fr) (hx:compOk x sc'=true):En (compEnvC sc' cl C env) sc' fr:=by
 have hk:∀ y k,sc'.names.lookup y=some k→(compEnvC sc' cl C env).kindOf y=some (if (k == NameKind.free && env.scope.kind == .function && env.kindOf y == some .cell) then NameKind.cell else k):=λ y k e=>by
  show ((relabel sc' env).names).lookup y=_
  unfold relabel
  rw [relabel_lookup,e];rfl
 have hok:scOk sc'=true:=by unfold compOk at hx;simp only [Bool.and_eq_true] at hx;exact hx.1.1.1
 have hkind:sc'.kind = .function:=by unfold scOk at hok;simp only [Bool.and_eq_true,decide_eq_true_eq] at hok;exact hok.1.1.1
 refine⟨hkind,X.glob,X.blt,X.frame,λ y e=>?_,λ y e=>?_,λ y e=>?_,λ y e=>?_,hok⟩
 ·rw [hk y _ e];rfl
 ·rw [hk y _ e];rfl
 ·rw [hk y _ e]
  by_cases hc:(NameKind.free == NameKind.free && env.scope.kind == .function && env.kindOf y == some .cell)=true
  ·rw [if_pos hc];exact .inr rfl
  ·rw [if_neg hc];exact .inl rfl
 ·rw [hk y _ e];rfl
theorem kvGet_set {x y:Str} {v:AV}:∀ {lc:Lc},kvGet (kvSet lc x v) y=if x=y then some v else kvGet lc y
 | []=>by simp [kvSet,kvGet]
 | (z,w) :: r=>by
  have ih:=kvGet_set (x:=x) (y:=y) (v:=v) (lc:=r)
  unfold kvSet
  by_cases hz:z=x
  ·rw [if_pos hz]
   clear ih
   subst hz
   unfold kvGet
   by_cases hy:z=y
   ·simp [hy]
   ·simp [hy]
  ·rw [if_neg hz]
   unfold kvGet
   by_cases hy:z=y
   ·subst hy;simp [Ne.symm hz]
   ·simp only [hy,if_false];exact ih
theorem Loc.comp {sc sc':Scope} {x:Str} {cl:List (Str×Addr)} {C:Addr} {lc:Lc} {v:AV} {u:Value} {m:Str→Option Value} (X:En env sc fr) (hx:compOk x sc'=true) (h0:(kvGet lc (nm ".0")).isNone=true) (L:Loc G env lc ι h)
  (hcl:∀ x c,cl.lookup x=some c→sc'.names.lookup x=some .free∧env.cells.lookup x=some c) (hfr:∀ x,sc'.names.lookup x=some .free→∃ c,cl.lookup x=some c)
  (hout:∀ y,sc'.names.lookup y=some .free→env.kindOf y=some .cell∨env.kindOf y=some .free)
  (hC:h.Ns C m) (hm:m x=some u) (hv:RepV G ι h v u) (hoC:¬ Own ι C):Loc G (compEnvC sc' cl C env) (kvSet lc x v) ι h:=by
 have hx':=hx
 unfold compOk at hx'
 simp only [Bool.and_eq_true,List.all_eq_true,Bool.or_eq_true,decide_eq_true_eq] at hx'
 obtain⟨⟨⟨hok,hall⟩,hlx⟩,hnd⟩:=hx'
 have hk:∀ y,(compEnvC sc' cl C env).kindOf y=(sc'.names.lookup y).map λ k=>if (k == NameKind.free && env.scope.kind == .function && env.kindOf y == some .cell) then NameKind.cell else k:=λ y=>by
  show ((relabel sc' env).names).lookup y=_
  unfold relabel
  rw [relabel_lookup]
 have isFree:∀ y,(compEnvC sc' cl C env).kindOf y=some .cell∨(compEnvC sc' cl C env).kindOf y=some .free→sc'.names.lookup y=some .free:=λ y hy=>by
  rw [hk] at hy
  cases hl:sc'.names.lookup y with
  | none=>rw [hl] at hy;rcases hy with hy | hy<;>cases hy
  | some k=>
   rw [hl] at hy
   by_cases hc:(k == NameKind.free && env.scope.kind == .function && env.kindOf y == some .cell)=true
   ·simp only [Bool.and_eq_true,beq_iff_eq] at hc
    rw [hc.1.1]
   ·simp only [Option.map_some,if_neg hc,Option.some.injEq] at hy
    rcases hy with rfl | rfl
    ·have:=(hall _ (lookup_mem hl)).1
     exact absurd rfl this
    ·rfl
 refine⟨⟨m,hC,λ y a e hl=>?_⟩,λ y c e=>?_,λ y hy=>hfr y (isFree y hy),hoC⟩
 ·have hloc:sc'.names.lookup y=some .local:=by
   rw [hk] at hl
   cases hq:sc'.names.lookup y with
   | none=>rw [hq] at hl;cases hl
   | some k=>
    rw [hq] at hl
    simp only [Option.map_some,Option.some.injEq] at hl
    split at hl
    ·cases hl
    ·rw [hl]
  rw [kvGet_set] at e
  by_cases hxy:x=y
  ·subst hxy
   rw [if_pos rfl] at e
   cases e
   exact⟨u,hm,hv⟩
  ·rw [if_neg hxy] at e
   rcases (hall _ (lookup_mem hloc)).2 with (q | q) | q
   ·exact absurd rfl q
   ·exact absurd q.symm hxy
   ·simp only at q
    rw [q,Option.isNone_iff_eq_none.mp h0] at e;cases e
 ·obtain⟨q1,q2⟩:=hcl y c e
  obtain⟨w,hw,hr⟩:=L.cells y c q2
  refine⟨w,hw,λ a ea zz=>?_⟩
  have hne:x≠y:=by rintro rfl;rw [hlx] at q1;cases q1
  rw [kvGet_set,if_neg hne] at ea
  exact hr a ea (hout y q1)
end
noncomputable def compBody (ifs:List Expr) (mt:AV→Expr→PM Bool) (me:AV→PM AV) (v:AV):PM (List AV):=do
 let ok ← boolT .And (ifs.map (mt v))
 match ok with
 | true=>do
  let y ← me v
  pure [y]
 | false=>pure []
section
variable {G:Gd} {A:Around} {fr:List Addr} {d:Nat} {env:Env}
theorem ns_dict {h:Heap} {a:Addr} {m:Str→Option Value} (x:h.Ns a m):∃ o es ep,h.get? a=some o∧o.data = .dict es ep:=by
 refine ex33 (x) λ o es ep ho hd zz=>?_
 exact⟨o,es,ep,ho,hd⟩
theorem one_away {W:Addr→Prop} {ι₀ ι:Img} {σ₀ σ:AH} {h₀ h h':Heap} {a:Addr} (hn:fr≠[]) (I₀:Inv G fr ι₀ σ₀ h₀) (S:Step W fr ι₀ ι h₀ h) (I:Inv G fr ι σ h) (n0:h₀.get? a=none) (ha:¬ Own ι a)
  (M:∀ o,h.get? a=some o→(o.cls = .type "tuple"→∀ v n,o.data≠.seq v n)∧(o.cls = .type "range"→∀ vs,o.data≠.fields vs)) (k:∀ b o,b≠a→h.get? b=some o→h'.get? b=some o):
  Inv G fr ι σ h'∧Step W fr ι₀ ι h₀ h'∧(∀ x v,RepV G ι h x v→RepV G ι h' x v)∧(∀ x v,RepVs G ι h x v→RepVs G ι h' x v):=by
 have hf:a ∉ fr:=λ q=>by
  refine ex32 (I₀.frame q) λ o zz zz e zz=>?_
  rw [n0] at e;cases e
 have Mi:Mild (λ b=>b=a) h:=λ b o e q=>by subst q;exact M o e
 have hk:∀ b o,h.get? b=some o→¬ Own ι b→b ∉ fr→¬ b=a→h'.get? b=some o:=λ b o e zz zz w=>k b o w e
 have I':=I.away_inv (W:=λ b=>b=a) hn (h':=h') (λ b q=>by
   cases hq:G.base.get? b with
   | none=>rfl
   | some o=>have e1:=I₀.base b o hq;rw [q,n0] at e1;cases e1) (λ b q=>q▸ha) Mi (λ b o w zz e=>k b o w e) (λ b hb w m e=>by
   refine ex32 (e) λ o es ep ho r=>?_
   exact⟨o,es,ep,k b o w ho,r⟩) (λ b hb w=>absurd hb (w▸hf))
 refine⟨I',⟨S.ext,λ b o e n f w=>?_,λ b hb w m e=>?_,λ b o e=>?_⟩,λ x v q=>RepV.move I (λ zz zz e=>e) hk Mi x v q,λ x v q=>RepVs.move I (λ zz zz e=>e) hk Mi x v q⟩
 ·exact k b o (λ q=>by rw [q,n0] at e;cases e) (S.keep b o e n f w)
 ·refine ex32 (S.ns b hb w m e) λ o es ep ho r=>?_
  exact⟨o,es,ep,k b o (λ q=>hf (q▸hb)) ho,r⟩
 ·obtain⟨o',e'⟩:=S.alive b o e
  exact⟨o',k b o' (λ q=>by rw [q,n0] at e;cases e) e'⟩
theorem nsMild {a:Addr} {hh:Heap} {mm:Str→Option Value} (q:hh.Ns a mm):∀ o,hh.get? a=some o→(o.cls = .type "tuple"→∀ v n,o.data≠.seq v n)∧(o.cls = .type "range"→∀ vs,o.data≠.fields vs):=λ o e=>by
 refine ex32 (ns_dict q) λ o' es ep q1 q2=>?_
 rw [q1] at e;cases e
 exact⟨λ zz v n z=>(by rw [q2] at z;cases z),λ zz v z=>(by rw [q2] at z;cases z)⟩
theorem ItAt.mild {I:Addr} {ι:Img} {h:Heap} {src:Src} {j:Nat} (it:ItAt I ι h src j):∀ o,h.get? I=some o→(o.cls = .type "tuple"→∀ v n,o.data≠.seq v n)∧(o.cls = .type "range"→∀ vs,o.data≠.fields vs):=λ o q=>by
 obtain⟨o',vs,q1,q2,q3,q4⟩:=it.obj
 rw [q1] at q;cases q
 exact⟨λ z=>absurd z q3,λ z=>absurd z q4⟩
theorem comp_tests {P:Img→Heap→Prop} (hP:Pers G fr P) {ce:Env} {ifs:List Expr} {elt:Expr} {mt:AV→Expr→PM Bool} {me:AV→PM AV} {v:AV} (it:∀ t∈ifs,Snd G A fr P (PySem.isTrue t ce (eval t ce)) (mt v t) RB) (ie:Snd G A fr P (eval elt ce) (me v) (RV G))
  {s:Shared} {ι:Img} {σ σc:AH} {rc:Except AV (List AV)} (ht:0 < s.toks) (I:Inv G fr ι σ s.heap) (hp:P ι s.heap) (e:compBody ifs mt me v σ=some (rc,σc)) {E:Value→Shared→Prop} {X:Shared→Prop} {Y:Value→Shared→Prop}
  (he:∀ p,rc = .error p→∀ e s',ErP G fr ι s p σc e s'→E e s')
  (hx:rc = .ok []→∀ h' tk' ι',Step NoW fr ι ι' s.heap h'→Inv G fr ι' σc h'→P ι' h'→0 < tk'→X { s with heap:=h',toks:=tk' })
  (hy:∀ a u,rc = .ok [a]→∀ h' tk' ι',Step NoW fr ι ι' s.heap h'→Inv G fr ι' σc h'→P ι' h'→0 < tk'→RepV G ι' h' a u→Y u { s with heap:=h',toks:=tk' }):
  wpAny (model G.prog G.w) A (forIn ifs true λ c r=>if r=true then do let ok ← PySem.isTrue c ce (eval c ce);pure (ForInStep.yield ok) else pure (ForInStep.yield r))
   (λ ok s₃=>if ok=true then wpAny (model G.prog G.w) A (eval elt ce) (λ x s₄=>Y x s₄) E s₃ else X s₃) E s:=by
 refine Snd.step (ifs_snd hP (mt v) it) ht I hp e (λ e s' ⟨p,z,o⟩=>he p z e s' o) λ b ok h1 tk1 ι1 σ1 ht1 S1 I1 hr q=>?_
 have hr:ok=b:=hr
 subst hr
 have p1:=hP _ _ _ _ _ I S1 hp
 cases ok with
 | false=>
  cases q
  exact hx rfl _ _ _ S1 I1 p1 ht1
 | true=>
  refine Snd.step ie (s:={ s with heap:=h1,toks:=tk1 }) ht1 I1 p1 q (λ e s' ⟨p,z,o⟩=>he p z e s' (ErP.after (s:=s) S1 o)) λ a u h2 tk2 ι2 σ2 ht2 S2 I2 hr q=>?_
  cases q
  exact hy _ _ rfl _ _ _ (S1.trans S2) I2 (hP _ _ _ _ _ I1 S2 p1) ht2 hr
noncomputable def GoJ (body:AV→PM (List AV)) (src:Src) (r:Except AV AV) (σ':AH) (k j:Nat) (σ₁:AH) (done:List AV):Prop:=(goN body src k j>>=λ vs=>newL (done++vs)) σ₁=some (r,σ')
inductive CompE (body:AV→PM (List AV)) (src:Src) (r:Except AV AV) (σ':AH) (k j:Nat) (done:List AV):Except AV (List AV)→AH→Prop
 | bad (p:AV) (h:r = .error p):CompE body src r σ' k j done (.error p) σ'
 | good (xs:List AV) (σc:AH) (h:GoJ body src r σ' k (j + 1) σc (done++xs)):CompE body src r σ' k j done (.ok xs) σc
inductive TurnE (body:AV→PM (List AV)) (src:Src) (r:Except AV AV) (σ':AH) (k j:Nat) (σ₁:AH) (done:List AV):Option AV→Prop
 | fin (h:newL done σ₁=some (r,σ')):TurnE body src r σ' k j σ₁ done none
 | more (v:AV) (hj:j < maxLen) (rc:Except AV (List AV)) (σc:AH) (h1:body v σ₁=some (rc,σc)) (h2:CompE body src r σ' k j done rc σc):TurnE body src r σ' k j σ₁ done (some v)
section
variable {body:AV→PM (List AV)} {src:Src} {r:Except AV AV} {σ' σ₁:AH} {k j:Nat} {done:List AV}
theorem TurnE.out (x:TurnE body src r σ' k j σ₁ done none):newL done σ₁=some (r,σ'):=by cases x;assumption
theorem TurnE.go {v:AV} (x:TurnE body src r σ' k j σ₁ done (some v)) {P:Prop} (h:j < maxLen→∀ rc σc,body v σ₁=some (rc,σc)→CompE body src r σ' k j done rc σc→P):P:=by cases x;exact h ‹_› _ _ ‹_› ‹_›
theorem CompE.er {p:AV} {σc:AH} (x:CompE body src r σ' k j done (.error p) σc):r = .error p∧σ'=σc:=by cases x;exact⟨‹_›,rfl⟩
theorem CompE.ok {xs:List AV} {σc:AH} (x:CompE body src r σ' k j done (.ok xs) σc):GoJ body src r σ' k (j + 1) σc (done++xs):=by cases x;assumption
theorem run_congr {α β:Type} {m m':PM α} {f:α→PM β} {σ:AH} (h:m' σ=m σ):(m'>>=f) σ=(m>>=f) σ:=by
 show PM.andThen m' f σ=PM.andThen m f σ
 unfold PM.andThen
 rw [h]
theorem goN_turn (e:GoJ body src r σ' k j σ₁ done):∃ k' nx,k=k' + 1∧nextA σ₁ src j=some nx∧TurnE body src r σ' k' j σ₁ done nx:=by
 cases k with
 | zero=>cases e
 | succ k=>
 have key:∀ {m:PM (List AV)},m σ₁=goN body src (k + 1) j σ₁→(m>>=λ a=>newL (done++a)) σ₁=some (r,σ'):=λ h=>(run_congr h).trans e
 clear e
 unfold goN at key
 cases hn:nextA σ₁ src j with
 | none=>
  have e:=key (m:=PM.fail) (by rw [hn])
  cases e
 | some nx=>
  refine⟨k,nx,rfl,rfl,?_⟩
  cases nx with
  | none=>
   have e:=key (m:=pure []) (by rw [hn];rfl)
   exact .fin (List.append_nil done▸e)
  | some v=>
   by_cases hj:j < maxLen
   ·have e:=key (m:=body v>>=λ x=>goN body src k (j + 1)>>=λ y=>pure (x++y)) (by rw [hn];exact (if_pos hj).symm)
    rw [PM.bind_assoc] at e
    rcases andThen_cases e with ⟨p,q1,rfl⟩ | ⟨xs,σc,q1,q2⟩
    ·exact .more v hj _ _ q1 (.bad p rfl)
    ·rw [PM.bind_assoc] at q2
     refine .more v hj _ _ q1 (.good xs σc ?_)
     unfold GoJ
     rw [show (λ vs=>newL (done++xs++vs))=λ vs=>newL (done++(xs++vs)) from funext λ vs=>by rw [List.append_assoc]]
     exact q2
   ·have e:=key (m:=PM.fail) (by rw [hn];exact (if_neg hj).symm)
    cases e
end
inductive CompJ (G:Gd) (fr:List Addr) (ι₀:Img) (h₀:Heap) (s₂:Shared) (I D C:Addr) (src:Src) (Go:Nat→AH→List AV→Prop) (s':Shared):Prop
 | mk (j:Nat) (ι₁:Img) (σ₁:AH) (h₁:Heap) (tk:Nat) (ys:List Value) (done:List AV) (m:Str→Option Value) (e:s' = { s₂ with heap:=h₁,toks:=tk }) (t:0 < tk) (S:Step NoW fr ι₀ ι₁ h₀ h₁) (I':Inv G fr ι₁ σ₁ h₁) (it:ItAt I ι₁ h₁ src j) (oI:¬ Own ι₁ I)
  (pl:h₁.PlainList D (List.toArray ys)) (oD:¬ Own ι₁ D) (rep:RepVs G ι₁ h₁ done ys) (len:ys.length≤j) (ns:h₁.Ns C m) (oC:¬ Own ι₁ C) (go:Go j σ₁ done)
theorem comp_core (H:At A fr d) {sc sc':Scope} {x:Str} {cl:List (Str×Addr)} {lc:Lc} (X:En env sc fr) (hx:compOk x sc'=true) (h0:(kvGet lc (nm ".0")).isNone=true)
  (hcl:∀ x c,cl.lookup x=some c→sc'.names.lookup x=some .free∧env.cells.lookup x=some c) (hfr:∀ x,sc'.names.lookup x=some .free→∃ c,cl.lookup x=some c)
  (hout:∀ y,sc'.names.lookup y=some .free→env.kindOf y=some .cell∨env.kindOf y=some .free)
  {elt iter:Expr} {ifs:List Expr} {px pos:Pos} {I:Addr} {src:Src} {mt:AV→Expr→PM Bool} {me:AV→PM AV}
  (itests:∀ C v,∀ t∈ifs,Snd G A fr (Loc G (compEnvC sc' cl C env) (kvSet lc x v)) (PySem.isTrue t (compEnvC sc' cl C env) (eval t (compEnvC sc' cl C env))) (mt v t) RB)
  (ielt:∀ C v,Snd G A fr (Loc G (compEnvC sc' cl C env) (kvSet lc x v)) (eval elt (compEnvC sc' cl C env)) (me v) (RV G))
  {s₀:Shared} {ι₀:Img} {σ₀:AH} (I₀:Inv G fr ι₀ σ₀ s₀.heap) (L₀:Loc G env lc ι₀ s₀.heap)
  {s₂:Shared} {ι₂:Img} {σ₂:AH} (ht:0 < s₂.toks) (I₂:Inv G fr ι₂ σ₂ s₂.heap) (S₂:Step NoW fr ι₀ ι₂ s₀.heap s₂.heap) (hI:s₀.heap.get? I=none) (hit:ItAt I ι₂ s₂.heap src 0)
  {fuel:Nat} {r:Except AV AV} {σ':AH} (e:(goN (compBody ifs mt me) src fuel 0>>=newL) σ₂=some (r,σ')) {E:Value→Shared→Prop}
  {R:Value→Addr→Result→Shared→Prop}
  (hok:∀ D C ι₁ σ₁ h₁ tk ys vs m,s₀.heap.get? D=none→s₀.heap.get? C=none→D≠C→Step NoW fr ι₀ ι₁ s₀.heap h₁→Inv G fr ι₁ σ₁ h₁→h₁.PlainList D (List.toArray ys)→¬ Own ι₁ D→RepVs G ι₁ h₁ vs ys→h₁.Ns C m→¬ Own ι₁ C →
   newL vs σ₁=some (r,σ')→R (.ref D) C (.ok .next) { s₂ with heap:=h₁,toks:=tk })
  (herr:∀ p,r = .error p→∀ D C ι₁ h₁ tk y m hq,(∀ b o,s₀.heap.get? b=some o→∃ o',hq.get? b=some o')→(∃ o,hq.get? C=some o)→s₀.heap.get? C=none→Step NoW fr ι₀ ι₁ s₀.heap h₁→Inv G fr ι₁ σ' h₁→Fly G ι₁ hq h₁ y p true→h₁.Ns C m→¬ Own ι₁ C→R (.ref D) C (.error (.ref y)) { s₂ with heap:=h₁,toks:=tk }):
  wpAny (model G.prog G.w) A (newList []) (λ acc s₃=>wpAny (model G.prog G.w) A (newFunctionEnv sc' env.globals cl [] env.qual none .none (some env)) (λ cenv s₄=>
   codeAny (model G.prog G.w) A (.compStart (.ListComp elt [⟨.Name x px,iter,ifs,0⟩] sc' pos) 0 (.ref I) acc { cenv with scope:=relabel sc' env }) (R acc cenv.locals) s₄) E s₃) E s₂:=by
 have hx':=hx
 unfold compOk at hx'
 simp only [Bool.and_eq_true,List.all_eq_true,Bool.or_eq_true,decide_eq_true_eq] at hx'
 obtain⟨⟨⟨hsok,hall⟩,hlx⟩,hnd⟩:=hx'
 have hkind:sc'.kind = .function:=by
  unfold scOk at hsok
  simp only [Bool.and_eq_true,decide_eq_true_eq] at hsok
  exact hsok.1.1.1
 have hn:=H.ne
 have fresh:∀ a,s₂.heap.get? a=none→s₀.heap.get? a=none:=λ a q=>S₂.gone q
 refine wpAny_newObj_type (wpAny_newFunctionEnv (λ y hy=>(hall y hy).1) (λ y hy=>nomatch hy) (λ h₁ hns₁ hsb₁=>?_) hkind)
 dsimp only at hns₁ hsb₁ ⊢
 generalize hD:s₂.heap.objs.size=D at hns₁ hsb₁ ⊢
 generalize hH2:s₂.heap.push { cls:=.type "list",dict:=none,data:=.seq ([]:List Value).toArray } = H2 at hns₁ hsb₁ ⊢
 generalize hC:H2.objs.size=C at hns₁ hsb₁ ⊢
 have hCD:C=D + 1:=by rw [← hC,← hH2,Heap.size_push,hD]
 have hDC:D≠C:=by lia
 have nD2:s₂.heap.get? D=none:=Heap.get?_none_of_le (by lia)
 have nC2:s₂.heap.get? C=none:=Heap.get?_none_of_le (by lia)
 have nD:=fresh D nD2
 have nC:=fresh C nC2
 have old:∀ b o,s₂.heap.get? b=some o→h₁.get? b=some o:=λ b o q=>by
  have hb:b≠C:=λ z=>by rw [z,nC2] at q;cases q
  exact (hsb₁.2 b hb).trans (Heap.get?_push_of_some _ (hH2▸Heap.get?_push_of_some _ q))
 have accP:h₁.PlainList D (List.toArray []):=⟨0,by
  refine (hsb₁.2 D hDC).trans (Heap.get?_push_of_some _ ?_)
  rw [← hH2,← hD]
  exact Heap.get?_push_size _ rfl⟩
 have hnodot:∀ b,s₂.heap.get? b=none→¬ Own ι₂ b:=λ b q z=>by
  obtain⟨o,ho,_⟩:=I₂.own z
  rw [q] at ho;cases ho
 obtain⟨I₁,S₁⟩:=I₂.keeps hn (.of old)
 have hitI:∃ o vs,s₂.heap.get? I=some o∧o.data = .fields vs∧o.cls≠.type "tuple"∧o.cls≠.type "range":=hit.obj
 have hIn:∃ o,s₂.heap.get? I=some o:=by obtain⟨o,_,q,_⟩:=hitI;exact⟨o,q⟩
 have hoI:¬ Own ι₂ I:=by obtain⟨o,vs,q1,q2,_⟩:=hitI;exact (I₂.fieldsFree q1 q2).1
 have hID:I≠D:=by obtain⟨o,q⟩:=hIn;rintro rfl;rw [nD2] at q;cases q
 have hIC:I≠C:=by obtain⟨o,q⟩:=hIn;rintro rfl;rw [nC2] at q;cases q
 have nf:∀ a,s₀.heap.get? a=none→a ∉ fr:=λ a q z=>by
  obtain⟨o,_,_,e,_⟩:=I₀.frame z
  rw [q] at e;cases e
 refine ex22 (X.frame) λ L rr hfrL hfL=>?_
 let J:Nat→Shared→Prop:=λ k s'=>CompJ G fr ι₀ s₀.heap s₂ I D C src (GoJ (compBody ifs mt me) src r σ' k) s'
 have hcx:(compEnvC sc' cl C env).kindOf x=some .local:=lookup_relabel_local hlx
 have loop:codeAny (model G.prog G.w) A (.compLoop (.ListComp elt [⟨.Name x px,iter,ifs,0⟩] sc' pos) 0 (.ref I) (.ref D) (compEnvC sc' cl C env)) (R (.ref D) C) { s₂ with heap:=h₁,toks:=s₂.toks + ([]:List (Str×Value)).length }:=by
  refine codeAny_compLoop_tests J ?_ fuel ?_
  ·rintro k s' ⟨j,ι₁,σ₁,h₁,tk,ys,done,m,rfl,htk,S,Iv,hit,hoI,hpl,hoD,hrep,hlen,hns,hoC,hgo⟩
   obtain⟨k,nx,rfl,hnx,hgo⟩:=goN_turn hgo
   refine iter_next (s:={ s₂ with heap:=h₁,toks:=tk }) H Iv hit hnx ?_ ?_
   ·intro q h' kp
    refine ex04 (one_away hn I₀ S Iv hI hoI hit.mild kp) λ Z1 Z2 Z3 Z4=>?_
    have hpl':h'.PlainList D (List.toArray ys):=hpl.at λ o q=>kp D o (Ne.symm hID) q
    have hns':h'.Ns C m:=hns.at' λ o q=>kp C o (Ne.symm hIC) q
    exact hok D C ι₁ σ₁ h' tk ys done m nD nC hDC Z2 Z1 hpl' hoD (Z4 _ _ hrep) hns' hoC (q▸hgo).out
   ·intro v q h' tk' u _ hu hit' kp
    refine (q▸hgo:TurnE _ src r σ' k j σ₁ done (some v)).go λ hj rc σc hb1 hb2=>?_
    clear q hgo hnx nx
    refine ex04 (one_away hn I₀ S Iv hI hoI hit.mild kp) λ Z1 Z2 Z3 Z4=>?_
    have hpl':h'.PlainList D (List.toArray ys):=hpl.at λ o q=>kp D o (Ne.symm hID) q
    have hns':h'.Ns C m:=hns.at' λ o q=>kp C o (Ne.symm hIC) q
    have hp:((compEnvC sc' cl C env).scope.kind == .class || ((compEnvC sc' cl C env).scope.kind == .module && (compEnvC sc' cl C env).locals != (compEnvC sc' cl C env).globals))=false:=by
     show (sc'.kind == .class || (sc'.kind == .module && C != env.globals))=false
     rw [hkind];rfl
    refine wpAny_assign_Name (wpAny_storeName_local hcx hns' (λ hb hnb hsb=>?_) hp)
    refine ex04 (one_away hn I₀ Z2 Z1 nC hoC (nsMild hns') (λ b o nb e=>(hsb.2 b nb).trans e)) λ Y1 Y2 Y3 Y4=>?_
    have hplb:hb.PlainList D (List.toArray ys):=hpl'.at λ o q=>(hsb.2 D hDC).trans q
    have hitb:ItAt I ι₁ hb src (j + 1):=hit'.keep (λ zz zz e=>e) λ o q=>(hsb.2 I hIC).trans q
    have Lc:Loc G (compEnvC sc' cl C env) (kvSet lc x v) ι₁ hb:=Loc.comp X hx h0 (Pers.loc _ _ _ _ _ I₀ Y2 L₀) hcl hfr hout hnb (by simp) (Y3 _ _ (Z3 _ _ hu)) hoC
    refine ex32 (id hnb) λ oC esC epC hC1 hC2=>?_
    obtain⟨nD',hD1⟩:=id hplb
    refine ex24 (hitb.obj) λ oI vsI hI1 hI2 hI3 hI4=>?_
    let PP:Img→Heap→Prop:=λ ι h=>Loc G (compEnvC sc' cl C env) (kvSet lc x v) ι h∧(h.get? D=some { cls:=.type "list",data:=.seq (List.toArray ys) nD' }∧¬ Own ι D)∧(h.get? I=some oI∧¬ Own ι I)∧(h.get? C=some oC∧¬ Own ι C)∧RepVs G ι h done ys
    have hPP:Pers G fr PP:=Pers.loc.and ((Pers.at (nf D nD)).and ((Pers.at (nf I hI)).and ((Pers.at (nf C nC)).and (Pers.reps _ _))))
    have pp0:PP ι₁ hb:=⟨Lc,⟨hD1,hoD⟩,⟨hI1,hoI⟩,⟨hC1,hoC⟩,Y4 _ _ (Z4 _ _ hrep)⟩
    refine comp_tests hPP (λ t ht=>(itests C v t ht).pre λ zz zz q=>q.1) ((ielt C v).pre λ zz zz q=>q.1) (s:={ s₂ with heap:=hb,toks:=tk' + 1 }) (Nat.succ_pos _) Y1 pp0 hb1 ?_ ?_ ?_
    ·rintro p rfl e s' ⟨h9,tk9,ι9,y9,rfl,rfl,S9,I9,F9⟩
     obtain⟨hr,rfl⟩:=hb2.er
     refine note_wp (s:={ s₂ with heap:=h9,toks:=tk9 }) (L:=L) (r:=rr) H hfL hfrL Y1 S9 I9 F9 λ h8 S8 I8 F8=>?_
     have ppC:=(hPP _ _ _ _ _ Y1 S8 pp0).2.2.2.1
     exact herr p hr D C ι9 h8 tk9 y9 _ hb Y2.alive ⟨_,hC1⟩ nC (Y2.trans S8) I8 F8 (hnb.at' λ o q=>(ppC.1).trans (hC1.symm.trans q)) ppC.2
    ·rintro rfl h3 tk3 ι3 S3 I3 p3 ht3
     have g:=hb2.ok
     rw [List.append_nil] at g
     exact⟨k,Nat.lt_succ_self k,j + 1,ι3,_,h3,tk3,ys,done,_,rfl,ht3,Y2.trans S3,I3,hitb.keep (λ zz zz e=>S3.img e) (λ o q=>(p3.2.2.1.1).trans (hI1.symm.trans q)),p3.2.2.1.2,⟨_,p3.2.1.1⟩,p3.2.1.2,p3.2.2.2.2,by lia,hnb.at' (λ o q=>(p3.2.2.2.1.1).trans (hC1.symm.trans q)),p3.2.2.2.1.2,g⟩
    ·rintro yv yu rfl h4 tk4 ι4 S4 I4 p4 ht4 hr4
     have hpl4:h4.PlainList D (List.toArray ys):=⟨_,p4.2.1.1⟩
     have hm:maxLen=1000000:=rfl
     refine wpAny_list_append_plain (s:={ s₂ with heap:=h4,toks:=tk4 }) hpl4 (λ h5 hpl5 hs5=>?_) (by rw [List.size_toArray,sizeLine_eq];lia)
     obtain⟨X1,X2,X3,X4⟩:=one_away hn I₀ (Y2.trans S4) I4 nD p4.2.1.2 (λ o q=>by
      rw [p4.2.1.1] at q;cases q
      exact⟨λ z=>absurd z (by show Value.type "list"≠_;decide),λ z=>absurd z (by show Value.type "list"≠_;decide)⟩) (λ b o nb e=>(hs5.2 b nb).trans e)
     exact⟨k,Nat.lt_succ_self k,j + 1,ι4,_,h5,tk4,ys++[yu],done++[yv],_,rfl,ht4,X2,X1,hitb.keep (λ zz zz e=>S4.img e) (λ o q=>((hs5.2 I hID).trans p4.2.2.1.1).trans (hI1.symm.trans q)),p4.2.2.1.2,by simpa using hpl5,p4.2.1.2,
      (X4 _ _ p4.2.2.2.2).app ⟨X3 _ _ hr4,trivial⟩,by rw [List.length_append];exact Nat.succ_le_succ hlen,hnb.at' (λ o q=>((hs5.2 C (Ne.symm hDC)).trans p4.2.2.2.1.1).trans (hC1.symm.trans q)),p4.2.2.2.1.2,hb2.ok⟩
  ·have hoC2:¬ Own ι₂ C:=hnodot C nC2
   exact⟨0,ι₂,σ₂,h₁,_,[],[],_,rfl,Nat.lt_of_lt_of_le ht (Nat.le_add_right _ _),S₂.trans S₁,I₁,hit.keep (λ zz zz e=>e) (λ o q=>old I o q),hoI,accP,hnodot D nD2,trivial,Nat.zero_le _,hns₁,hoC2,e⟩
 have itself:wpAny (model G.prog G.w) A (pyIter (.ref I)) (λ it' s'=>codeAny (model G.prog G.w) A (.compLoop (.ListComp elt [⟨.Name x px,iter,ifs,0⟩] sc' pos) 0 it' (.ref D) (compEnvC sc' cl C env)) (R (.ref D) C) s')
   (notedBy (model G.prog G.w) A (compEnvC sc' cl C env) λ x s'=>R (.ref D) C (.error x) s') { s₂ with heap:=h₁,toks:=s₂.toks + ([]:List (Str×Value)).length }:=by
  have hit1:ItAt I ι₂ h₁ src 0:=hit.keep (λ zz zz e=>e) (λ o q=>old I o q)
  cases hit1 with
  | lst zz q=>exact wpAny_pyIter_listiter q loop
  | rng q=>exact wpAny_pyIter_rangeiter q loop
  | asc q=>exact wpAny_pyIter_striter_ascii q loop
  | wid q=>exact wpAny_pyIter_striter_wide q loop
 exact codeAny_compStart_list loop itself
end
section
variable {G:Gd} {A:Around} {fr:List Addr} {d:Nat} {env:Env}
theorem srcOf_ok {v p:AV} {σ σ':AH}:srcOf v σ=some (.error p,σ')→False:=by
 refine srcOf_cases (P:=λ v m=>m σ=some (.error p,σ')→False) (λ e=>no_none e) (λ i e=>?_) (λ s e=>no_oe e) (λ a b=>?_) v
 ·refine ex12 (bind_lst e) λ l hl e=>?_
  exact no_oe e
 ·by_cases h:b - a≤maxLen
  ·rw [if_pos h];exact λ e=>no_oe e
  ·rw [if_neg h];exact λ e=>no_none e
theorem Fly.away {ι:Img} {hq h h':Heap} {x:Addr} {p:AV} {t:Bool} {a:Addr} (F:Fly G ι hq h x p t) (ha:∃ o,hq.get? a=some o) (k:∀ b o,b≠a→h.get? b=some o→h'.get? b=some o) (mv:∀ x v,RepV G ι h x v→RepV G ι h' x v):Fly G ι hq h' x p t:=by
 obtain⟨o,ho⟩:=ha
 have ne:∀ b,hq.get? b=none→b≠a:=λ b e q=>by rw [q,ho] at e;cases e
 obtain⟨dx,vs,es,n,sl,u,hx,n0,hdx,hpl,ru,hz,tb⟩:=F.there
 refine⟨F.new,dx,vs,es,n,sl,u,k _ _ (ne _ F.new) hx,n0,k _ _ (ne _ n0) hdx,hpl,mv _ _ ru,hz,tb.imp id ?_⟩
 rintro⟨T,oT,ts,h1,h2,h3,h4,h5,h6,h7⟩
 exact⟨T,oT,ts,h1,h2,h3,k _ _ (ne _ h2) h4,h5,h6,h7⟩
theorem folded_of {iter:Expr} (h:notSet iter=true) (env:Env) (x:Value):foldedSetIterable iter env x=pure x:=by
 cases iter<;>first | rfl | cases h
set_option tactic.hygienic true in
theorem comp_wp (H:At A fr d) {sc sc':Scope} {x:Str} {lc:Lc} (X:En env sc fr) (hx:compOk x sc'=true) (h0:(kvGet lc (nm ".0")).isNone=true) {elt iter:Expr} {ifs:List Expr} {px p0 pos:Pos} (hit:notSet iter=true)
  {mi:PM AV} {mt:AV→Expr→PM Bool} {me:AV→PM AV} (ii:Snd G A fr (Loc G env lc) (eval iter env) mi (RV G))
  (itests:∀ cl C v,∀ t∈ifs,En (compEnvC sc' cl C env) sc' fr→Snd G A fr (Loc G (compEnvC sc' cl C env) (kvSet lc x v)) (PySem.isTrue t (compEnvC sc' cl C env) (eval t (compEnvC sc' cl C env))) (mt v t) RB)
  (ielt:∀ cl C v,En (compEnvC sc' cl C env) sc' fr→Snd G A fr (Loc G (compEnvC sc' cl C env) (kvSet lc x v)) (eval elt (compEnvC sc' cl C env)) (me v) (RV G))
  (hfree:∀ y,sc'.names.lookup y=some .free→env.kindOf y=some .cell∨env.kindOf y=some .free)
  {s:Shared} {ι:Img} {σ:AH} {fuel:Nat} {r:Except AV AV} {σ':AH} (ht:0 < s.toks) (I:Inv G fr ι σ s.heap) (L:Loc G env lc ι s.heap)
  (e:(do let it ← mi;let src ← srcOf it;let vs ← goN (compBody ifs mt me) src fuel 0;newL vs:PM AV) σ=some (r,σ')) {use:Option (Value→Sem Unit)} {Q:Value→Shared→Prop} {E:Value→Shared→Prop}
  (hE:∀ p e s',r = .error p→ErP G fr ι s p σ' e s'→E e s')
  (hU:∀ D C ι₁ h₁ tk m,s.heap.get? D=none→s.heap.get? C=none→D≠C→Step NoW fr ι ι₁ s.heap h₁→Inv G fr ι₁ σ' h₁→(∃ i,r = .ok (.obj i)∧ι₁[i]? = some (D,D))→h₁.Ns C m→¬ Own ι₁ C →
   compPost (model G.prog G.w) A E use Q (.ref D) C (.ok .next) { s with heap:=h₁,toks:=tk }):
  wpAny (model G.prog G.w) A (comprehension (.ListComp elt [⟨.Name x px,iter,ifs,0⟩] sc' pos) sc' env p0 (newList []) false (eval iter env) use) Q E s:=by
 have hx':=hx
 unfold compOk at hx'
 simp only [Bool.and_eq_true,List.all_eq_true,Bool.or_eq_true,decide_eq_true_eq] at hx'
 obtain⟨⟨⟨hsok,hall⟩,hlx⟩,hnd⟩:=hx'
 have hkind:sc'.kind = .function:=by
  unfold scOk at hsok
  simp only [Bool.and_eq_true,decide_eq_true_eq] at hsok
  exact hsok.1.1.1
 refine ex13 (clos_of sc' env hnd λ y hy=>L.has y (hfree y hy)) λ cl c1 c2 c3=>?_
 have hn:=H.ne
 have nf:∀ a,s.heap.get? a=none→a ∉ fr:=λ a q z=>by
  refine ex32 (I.frame z) λ o zz zz e zz=>?_
  rw [q] at e;cases e
 have nb:∀ a,s.heap.get? a=none→G.base.get? a=none:=λ a q=>by
  cases hq:G.base.get? a with
  | none=>rfl
  | some o=>rw [I.base a o hq] at q;cases q
 refine wpAny_comprehension_free (g:=⟨.Name x px,iter,ifs,0⟩) (gs:=[]) rfl (folded_of hit env) c1 hkind (λ y hy hl=>lookup_nodup hnd (by rw [← hl];exact hy)) ?_
 refine Snd.step ii ht I L e (λ zz zy ⟨p,z,he⟩=>hE p _ _ z he) λ iv u h1 tk1 ι1 σ1 ht1 S1 I1 hu q2=>?_
 rcases andThen_cases q2 with ⟨p,q3,rfl⟩ | ⟨src,σ2,q3,q4⟩
 ·exact (srcOf_ok q3).elim
 refine iter_start (s:={ s with heap:=h1,toks:=tk1 }) I1 hu q3 λ Ia h2 hσ kp nI it2=>?_
 subst hσ
 obtain⟨I2,S2⟩:=I1.keeps hn (.of kp)
 refine comp_core (R:=λ acc C=>compPost (model G.prog G.w) A E use Q acc C) (s₂:={ s with heap:=h2,toks:=tk1 }) H X hx h0 c2 c3 hfree (λ C v t htt=>itests cl C v t htt (X.comp hx)) (λ C v=>ielt cl C v (X.comp hx)) I L ht1 I2 (S1.trans S2) (S1.gone nI) it2 q4 ?_ ?_
 ·intro D C ι3 σ3 h3 tk3 ys vs m nD nC hDC S3 I3 hpl hoD hrep hns hoC hnew
  unfold newL at hnew
  clear pos p0 px hE L I ht hfree ielt itests ii hit h0 hx X H it2 nI kp Ia hn hkind q4 q2 hu I1 S1 u S2 I2 q3 c3 c2 c1 cl hnd hlx hall hsok iter elt lc x sc' sc σ2 src iv ι1 h1
  split at hnew
  ·rename_i hz
   unfold newO at hnew
   cases hnew
   have I4:=I3.adopt (p:=(D,D)) (o:=.list vs) hoD hoD (nb D nD) (nb D nD) (nf D nD) (nf D nD) ⟨rfl,hz,ys,hpl,RepVs.mono (λ i q e=>by rw [List.getElem?_append_left (List.getElem?_eq_some_iff.mp e).1];exact e) (λ zz zz e=>e) _ _ hrep⟩
   refine hU D C (ι3++[(D,D)]) h3 tk3 m nD nC hDC (S3.adopt nD nD) I4 ⟨_,rfl,by rw [← I3.len];simp⟩ hns ?_
   refine rwi (Own.app ..) ?_
   rintro (z | ⟨q,hq,z⟩)
   ·exact hoC z
   ·simp at hq
    subst hq
    rcases z with z | z<;>exact hDC z.symm
  ·cases hnew
 ·intro p hr D C ι3 h3 tk3 y m hq hal hC nC S3 I3 F3 hns hoC
  show ∃ m,_∧_
  refine⟨m,hns,λ h' hs cenv hcl=>?_⟩
  have kp':∀ b o,b≠C→h3.get? b=some o→h'.get? b=some o:=λ b o nbc e=>(hs.2 b nbc).trans e
  refine ex04 (one_away hn I S3 I3 nC hoC (nsMild hns) kp') λ Z1 Z2 Z3 Z4=>?_
  have F4:Fly G ι3 s.heap h' y p true:=(F3.away hC kp' Z3).mono hal
  exact passOn_wp (s:={ s with heap:=h',toks:=tk3 }) H I Z2 Z1 F4 λ h'' S'' I'' F''=>hE p _ _ hr ⟨h'',tk3,ι3,y,rfl,rfl,S'',I'',F''⟩
theorem comp_snd (H:At A fr d) {sc sc':Scope} {x:Str} {lc:Lc} (X:En env sc fr) (hx:compOk x sc'=true) (h0:(kvGet lc (nm ".0")).isNone=true) {elt iter:Expr} {ifs:List Expr} {px pos:Pos} (hit:notSet iter=true)
  {mi:PM AV} {mt:AV→Expr→PM Bool} {me:AV→PM AV} {fuel:Nat} (ii:Snd G A fr (Loc G env lc) (eval iter env) mi (RV G))
  (itests:∀ cl C v,∀ t∈ifs,En (compEnvC sc' cl C env) sc' fr→Snd G A fr (Loc G (compEnvC sc' cl C env) (kvSet lc x v)) (PySem.isTrue t (compEnvC sc' cl C env) (eval t (compEnvC sc' cl C env))) (mt v t) RB)
  (ielt:∀ cl C v,En (compEnvC sc' cl C env) sc' fr→Snd G A fr (Loc G (compEnvC sc' cl C env) (kvSet lc x v)) (eval elt (compEnvC sc' cl C env)) (me v) (RV G))
  (hfree:∀ y,sc'.names.lookup y=some .free→env.kindOf y=some .cell∨env.kindOf y=some .free):
  Snd G A fr (Loc G env lc) (eval (.ListComp elt [⟨.Name x px,iter,ifs,0⟩] sc' pos) env) (do let it ← mi;let src ← srcOf it;let vs ← goN (compBody ifs mt me) src fuel 0;newL vs) (RV G):=by
 intro ι σ s r σ' ht I hp e
 refine rwg (eval_ListComp ..) ?_
 refine comp_wp (use:=none) H X hx h0 hit ii itests ielt hfree ht I hp e (λ p e s' hr he=>⟨p,hr,he⟩) ?_
 intro D C ι1 h1 tk m nD nC hDC S1 I1 hr hns hoC
 refine⟨m,hns,λ h' hs=>?_⟩
 refine ex12 (hr) λ i hr hi=>?_
 refine ex04 (one_away H.ne I S1 I1 nC hoC (nsMild hns) (λ b o nbc e=>(hs.2 b nbc).trans e)) λ Z1 Z2 Z3 Z4=>?_
 exact⟨_,hr,h',tk,ι1,rfl,Z2,Z1,⟨_,hi,rfl⟩⟩
end
section
variable {G:Gd} {A:Around} {fr:List Addr} {d:Nat} {env:Env} {P:Img→Heap→Prop}
theorem merged_nodup:∀ (kvs acc:List (Str×Value)),((acc++kvs).map (·.1)).Nodup→merged acc kvs=acc++kvs
 | [],acc,zz=>by simp [merged]
 | (k,v) :: r,acc,hn=>by
  have h1:stored acc k v=acc++[(k,v)]:=by
   unfold stored
   rw [if_neg]
   simp only [List.any_eq_true,decide_eq_true_eq,not_exists,not_and]
   intro p hp q
   rw [List.map_append,List.nodup_append] at hn
   exact hn.2.2 p.1 (List.mem_map_of_mem hp) k (by simp) q
  show merged (stored acc k v) r=_
  rw [h1,merged_nodup r _ (by rw [List.append_assoc];exact hn),List.append_assoc];rfl
noncomputable def PairsR (G:Gd) (xs:List Str) (vs:List AV) (kvs:List (Value×Value)) (ι:Img) (h:Heap):Prop:=Carries (strKind G.prog G.w) kvs (xs.zip (kvs.map (·.2)))∧RepVs G ι h vs (kvs.map (·.2))∧kvs.length=xs.length
theorem keysOf_one {k:Option Expr} {ks:List (Option Expr)} {xs:List Str} (h:keysOf (k :: ks)=some xs):∃ x q1 q2,k=some (.Constant (.str x) q1 q2):=by
 cases k with
 | none=>cases h
 | some e=>
  cases e with
  | Constant c q1 q2=>cases c<;>first | exact⟨_,_,_,rfl⟩ | cases h
  | _=>cases h
theorem pairs_snd (hP:Pers G fr P) {pos:Pos} (m:Expr→PM AV):∀ {ks:List (Option Expr)} {es:List Expr} {xs:List Str},(∀ e∈es,Snd G A fr P (eval e env) (m e) (RV G))→keysOf ks=some xs→ks.length=es.length →
  Snd G A fr P (evalPairs (pairTrees ks es env pos)) (seqA (es.map m)) (PairsR G xs)
 | [],[],xs,zz,hk,zy=>by
  cases hk
  exact Snd.pure λ ι h zz=>⟨trivial,trivial,rfl⟩
 | k :: ks,e :: es,xs,H,hk,hl=>by
  obtain⟨x,q1,q2,rfl,xs',hk',rfl⟩:∃ x q1 q2,k=some (.Constant (.str x) q1 q2)∧∃ xs',keysOf ks=some xs'∧xs=x :: xs':=by
   refine ex31 (keysOf_one hk) λ x q1 q2 rr3=>?_
   subst rr3
   refine ex12 (Option.map_eq_some_iff.mp hk) λ xs' h1 rr2=>?_
   subst rr2
   exact⟨x,q1,q2,rfl,xs',h1,rfl⟩
  have ih:=pairs_snd (pos:=pos) (xs:=xs') hP m (ks:=ks) (es:=es) (λ e he=>H e (.tail _ he)) hk' (by simpa using hl)
  show Snd G A fr P (evalPairs ((eval (.Constant (.str x) q1 q2) env,(do let x ← eval e env;standAt pos;pure x)) :: pairTrees ks es env pos)) (m e>>=λ v=>seqA (es.map m)>>=λ vs=>pure (v :: vs)) _
  intro ι σ s r σ' ht I hp e0
  refine evalPairs_cons ?_
  refine wpAny_mkText ?_
  refine wpAny_bind (Snd.step (H e (.head _)) (s:={ s with toks:=s.toks + 1 }) (Nat.succ_pos _) I hp e0 (λ zz zy ⟨p,z,o⟩=>⟨p,z,let ⟨h,tk,ι,x,a,b,c,d,f⟩:=o;⟨h,tk,ι,x,a,b,c,d,f⟩⟩) λ v u h1 tk1 ι1 σ1 ht1 S1 I1 hu q2=>?_)
  clear e0 ht
  refine wpAny_bind (wpAny_standAt (wpAny_pure ?_))
  refine Snd.step ih (s:={ s with heap:=h1,toks:=tk1 }) ht1 I1 (hP _ _ _ _ _ I S1 hp) q2 (λ zz zy ⟨p,z,o⟩=>⟨p,z,ErP.after (s:=s) S1 o⟩) λ vs kvs h2 tk2 ι2 σ2 zz S2 I2 hr q4=>?_
  clear hP ht1 zz ih hp I σ q2 pos
  cases q4
  refine ex03 (hr) λ r1 r2 r3=>?_
  exact⟨_,rfl,h2,tk2,ι2,rfl,S1.trans S2,I2,⟨strKind_is _ _ x _,rfl,r1⟩,⟨RepV.step I1 S2 mildNo _ _ hu,r2⟩,congrArg (· + 1) r3⟩
 | [],_ :: _,_,_,_,hl=>by simp at hl
 | _ :: _,[],_,_,_,hl=>by simp at hl
theorem keys_some:∀ {ks:List (Option Expr)} {xs:List Str},keysOf ks=some xs→ks.all (·.isSome)=true∧xs.length=ks.length
 | [],xs,h=>by cases h;exact⟨rfl,rfl⟩
 | k :: ks,xs,h=>by
  refine ex31 (keysOf_one h) λ x q1 q2 rr3=>?_
  subst rr3
  refine ex12 (Option.map_eq_some_iff.mp h) λ xs' h1 rr2=>?_
  subst rr2
  obtain⟨a,b⟩:=keys_some h1
  exact⟨by rw [List.all_cons,a];rfl,by simp [b]⟩
theorem dict_snd (hn:fr≠[]) (hP:Pers G fr P) {ks:List (Option Expr)} {es:List Expr} {pos:Pos} (m:Expr→PM AV) (H:∀ e∈es,Snd G A fr P (eval e env) (m e) (RV G)) (hd:dictOk ks es=true):
  Snd G A fr P (eval (.Dict ks es pos) env) (do let vs ← seqA (es.map m);(match keysOf ks with | some xs=>newO (.dict (xs.zip vs)) | none=>PM.fail:PM AV)) (RV G):=by
 unfold dictOk at hd
 simp only [Bool.and_eq_true,decide_eq_true_eq] at hd
 obtain⟨⟨⟨hl,hpos⟩,h15⟩,hk⟩:=hd
 cases hks:keysOf ks with
 | none=>rw [hks] at hk;cases hk
 | some xs=>
 rw [hks] at hk
 have hall:=(keys_some hks).1
 have hxl:=(keys_some hks).2
 intro ι σ s r σ' ht I hp e
 refine wpAny_Dict_any hall hl (by rintro rfl;cases hpos) h15 ?_
 generalize hD:s.heap.objs.size=D
 have nD:s.heap.get? D=none:=by rw [← hD];exact get_size _
 have I1:=(I.keeps hn (.of λ b o q=>Heap.get?_push_of_some { cls:=.type "dict",data:=.dict #[] } q)).1
 have S1:=(I.keeps hn (.of λ b o q=>Heap.get?_push_of_some { cls:=.type "dict",data:=.dict #[] } q)).2
 have nf:D ∉ fr:=λ z=>by
  refine ex32 (I.frame z) λ o zz zz e zz=>?_
  rw [nD] at e;cases e
 have nb:G.base.get? D=none:=by
  cases hq:G.base.get? D with
  | none=>rfl
  | some o=>rw [I.base D o hq] at nD;cases nD
 have hoD:¬ Own ι D:=λ z=>by obtain⟨o,ho,_⟩:=I.own z;rw [nD] at ho;cases ho
 have hDo:(s.heap.push { cls:=.type "dict",data:=.dict #[] }).get? D=some { cls:=.type "dict",data:=.dict #[] }:=by rw [← hD];exact Heap.get?_push_size _ rfl
 have hP':Pers G fr (λ ι h=>P ι h∧(h.get? D=some { cls:=.type "dict",data:=.dict #[] }∧¬ Own ι D)):=hP.and (Pers.at nf)
 have pp:(λ ι h=>P ι h∧(h.get? D=some { cls:=.type "dict",data:=.dict #[] }∧¬ Own ι D)) ι (s.heap.push { cls:=.type "dict",data:=.dict #[] }):=⟨hP _ _ _ _ _ I S1 hp,hDo,hoD⟩
 have X:=pairs_snd hP' (pos:=pos) m (ks:=ks) (es:=es) (xs:=xs) (λ e he=>(H e he).pre λ zz zz q=>q.1) hks hl
 refine Snd.step X (s:={ s with heap:=s.heap.push { cls:=.type "dict",data:=.dict #[] } }) ht I1 pp e (λ zz zy ⟨p,z,o⟩=>⟨p,z,ErP.after (s:=s) (tk:=s.toks) S1 o⟩) λ vs kvs h2 tk2 ι2 σ1 zz S2 I2 hr q2=>?_
 unfold newO at q2
 cases q2
 have r1:=(hr).1
 have r2:=(hr).2.1
 have r3:=(hr).2.2
 refine ex03 (hP' _ _ _ _ _ I1 S2 pp) λ zz hD2 hoD2=>?_
 have hz1:(xs.zip (kvs.map (·.2))).map (·.1)=xs:=by rw [List.map_fst_zip];rw [List.length_map,r3];exact Nat.le_refl _
 unfold storeAll
 refine wpAny_storeAll kvs (xs.zip (kvs.map (·.2))) [] { s with heap:=h2,toks:=tk2 } _ r1 (⟨_,#[],0,hD2,⟨rfl,rfl,rfl⟩,rfl,λ e he=>by simp at he,.nil,.nil⟩:h2.DictOf (strKind G.prog G.w) D []) (by rw [(by rw [List.length_zip,List.length_map,r3,Nat.min_self]:(xs.zip (kvs.map (·.2))).length=xs.length),sizeLine_eq];simp only [List.length_nil];lia) λ h3 hm3 hs3=>?_
 rw [merged_nodup _ _ (by rw [List.nil_append,hz1];exact (by simpa using hk)),List.nil_append] at hm3
 have hvl:=r2.length
 have S12:=S1.trans S2
 obtain⟨Z1,Z2,Z3,Z4⟩:=one_away hn I S12 I2 nD hoD2 (λ o q=>by
  rw [hD2] at q;cases q
  exact⟨λ z=>absurd z (by show Value.type "dict"≠_;decide),λ z=>absurd z (by show Value.type "dict"≠_;decide)⟩) (λ b o nbb e=>(hs3.2 b nbb).trans e)
 have hvx:vs.length=xs.length:=by rw [← hvl,List.length_map,r3]
 have I4:=Z1.adopt (p:=(D,D)) (o:=.dict (xs.zip vs)) hoD2 hoD2 nb nb nf nf ⟨rfl,by rw [List.length_zip,hvx,Nat.min_self,hxl];lia,_,hm3,by rw [hz1,List.map_fst_zip];lia,by
  rw [(by rw [List.map_snd_zip];rw [List.length_map,r3];exact Nat.le_refl _:(xs.zip (kvs.map (·.2))).map (·.2)=kvs.map (·.2)),List.map_snd_zip (by lia)]
  exact RepVs.mono (λ i q e=>by rw [List.getElem?_append_left (List.getElem?_eq_some_iff.mp e).1];exact e) (λ zz zz e=>e) _ _ (Z4 _ _ r2)⟩
 refine⟨_,rfl,h3,_,ι2++[(D,D)],rfl,Z2.adopt nD nD,I4,?_⟩
 exact⟨(D,D),by rw [← I2.len];simp,rfl⟩
end
section
variable {G:Gd} {A:Around} {fr:List Addr} {d:Nat}
theorem marked_plain {ops:List CmpOp}:∀ {rs:List Expr} {ts:List (Sem Value)} , rs.all notSet=true→markedEach ops rs ts=ts:=by
 induction ops with
 | nil=>intro rs ts _;cases rs<;>cases ts<;>rfl
 | cons op ops ih=>
  intro rs ts h
  cases rs with
  | nil=>cases ops<;>rfl
  | cons e rs=>
   rw [List.all_cons,Bool.and_eq_true] at h
   cases ts with
   | nil=>cases ops<;>cases rs<;>rfl
   | cons t ts=>
    cases ops with
    | nil=>
     cases rs with
     | nil=>cases ts with
      | nil=>
       show [markedBehindIn op e t]=[t]
       rw [markedBehindIn_of_false]
       cases e<;>first | rfl | cases h.1
      | cons t2 ts=>
       show t :: markedEach [] [] (t2 :: ts)=_
       rw [ih h.2]
     | cons e2 rs=>
      show t :: markedEach [] (e2 :: rs) ts=_
      rw [ih h.2]
    | cons op2 ops=>
     show t :: markedEach (op2 :: ops) rs ts=_
     rw [ih h.2]
theorem attrOf_at {f o:Expr} {x:Str} {ap:Pos} (h:attrOf f=some (o,x,ap)):f = .Attribute o x ap:=by
 cases f<;>cases h
 rfl
theorem replArgs_at {P:List Expr→Prop} {as:List Expr} {ab:Str×Str} (h:replArgs as=some ab) (k:∀ k1 p1 k2 p2,P [.Constant (.str ab.1) k1 p1,.Constant (.str ab.2) k2 p2]):P as:=by
 cases as with
 | nil=>cases h
 | cons a as=>
  cases a with
  | Constant c k1 p1=>
   cases c with
   | str s=>
    cases as with
    | nil=>cases h
    | cons b as=>
     cases b with
     | Constant c k2 p2=>
      cases c with
      | str s2=>
       cases as with
       | nil=>cases h;exact k _ _ _ _
       | cons zz zy=>cases h
      | _=>cases h
     | _=>cases h
   | _=>cases h
  | _=>cases h
theorem ev_snd (K:Gok G) (H:At A fr d) {X:Cx} (C:CallOk G A fr X):∀ (n:Nat) (sc:Scope) (lc:Lc) (e:Expr) (env:Env),En env sc fr →
  Snd G A fr (Loc G env lc) (eval e env) (evE X n sc lc e) (RV G)∧Snd G A fr (Loc G env lc) (PySem.isTrue e env (eval e env)) (evT X n sc lc e) RB:=by
 intro n
 have hu:A.units + 1 < cLine:=by have:=H.units;lia
 have hL:∃ L,L∈fr:=by
  cases hfr:fr with
  | nil=>exact absurd hfr H.ne
  | cons a r=>exact⟨a,.head _⟩
 induction n with
 | zero=>intro sc lc e env _;exact⟨Snd.fail,Snd.fail⟩
 | succ n ih=>
 intro sc lc e env N
 have hP:Pers G fr (Loc G env lc):=Pers.loc
 have one:∀ e,Snd G A fr (Loc G env lc) (eval e env) (evE X n sc lc e) (RV G):=λ e=>(ih sc lc e env N).1
 have tst:∀ e,Snd G A fr (Loc G env lc) (PySem.isTrue e env (eval e env)) (evT X n sc lc e) RB:=λ e=>(ih sc lc e env N).2
 have args:∀ es:List Expr,Snd G A fr (Loc G env lc) (spliced (es.map λ e=>(false,eval e env))) (seqA (es.map λ e=>evE X n sc lc e)) (Reps G):=λ es=>splice_snd hP _ λ e zz=>one e
 constructor
 ·cases e with
  | Constant c k pos=>
   exact const_snd _
  | Name x pos=>
   change Snd G A fr _ _ (nameA X.T sc lc x:PM AV) (RV G)
   rw [C.tab];exact name_snd K N
  | BoolOp op vs pos=>
   show Snd G A fr _ (boolOp pos op (evalEach vs env)) _ _
   refine rwg (each_map ..) ?_
   exact bool_snd hP _ λ e zz=>one e
  | BinOp l op r pos=>
   change Snd G A fr _ _ (evE X n sc lc l>>=λ a=>evE X n sc lc r>>=λ b=>binA op a b:PM AV) (RV G)
   refine rwg (eval_BinOp ..) ?_
   refine Snd.bind hP (one l) λ a v=>?_
   refine Snd.bind (hP.and (Pers.rep a v)) (Snd.holding ((one r).pre λ zz zz q=>q.1)) λ b w=>?_
   exact Snd.at_ (Snd.operate ((bin_snd (A:=A) hL op a b v w).pre λ zz zz q=>⟨q.1.2,q.2⟩))
  | UnaryOp op x pos=>
   cases op with
   | Not=>
    change Snd G A fr _ _ (evE X n sc lc x>>=λ v=>truthA v>>=λ b=>pure (.bool !b):PM AV) (RV G)
    show Snd G A fr _ (eval x env>>=λ v=>standAt pos>>=λ zz=>holding [v] (holding [v] (truthy v>>=λ t=>pure (Value.bool !t)))) _ _
    refine Snd.bind hP (one x) λ a v=>?_
    refine Snd.at_ (Snd.holding (Snd.holding ?_))
    refine Snd.bind (hP.and (Pers.rep a v)) ((truth_snd a v).pre λ zz zz q=>q) λ b t=>?_
    exact Snd.pure λ ι h q=>by
     have:t=b:=q.2
     exact congrArg (λ z=>Value.bool !z) this
   | USub=>
    change Snd G A fr _ _ (evE X n sc lc x>>=λ v=>match v with | .int a=>pure (.int (-a)) | _=>PM.fail:PM AV) (RV G)
    show Snd G A fr _ (eval x env>>=λ v=>standAt pos>>=λ zz=>holding [v] (unaryOp .USub v)) _ _
    refine Snd.bind hP (one x) λ a v=>?_
    refine Snd.at_ (Snd.holding ?_)
    intro ι σ s r σ' ht I hp e
    have hv:RepV G ι s.heap a v:=hp.2
    clear x pos ih C H K args tst one hP hL hu hp ht N env lc sc n X
    cases a<;>try (cases e)
    obtain⟨t,rfl⟩:=hv
    exact PyProof.Rows.neg_int ⟨_,rfl,s.heap,_,ι,rfl,.refl,I,⟨_,rfl⟩⟩
   | _=>exact Snd.fail
  | IfExp t a b pos=>
   change Snd G A fr _ _ (evT X n sc lc t>>=λ c=>match c with | true=>evE X n sc lc a | false=>evE X n sc lc b:PM AV) (RV G)
   show Snd G A fr _ (PySem.isTrue t env (eval t env)>>=λ c=>if c=true then eval a env else eval b env) _ _
   refine Snd.bind hP (tst t) λ c c'=>?_
   intro ι σ s r σ' ht I hp e
   have hc:c'=c:=hp.2
   subst hc
   cases c' with
   | true=>rw [if_pos rfl];exact one a ι σ s r σ' ht I hp.1 e
   | false=>rw [if_neg (by decide)];exact one b ι σ s r σ' ht I hp.1 e
  | List es pos=>
   change Snd G A fr _ _ (if plainArgs es=true then (seqA (es.map λ v=>evE X n sc lc v)>>=λ vs=>newL vs) else PM.fail:PM AV) (RV G)
   refine Snd.ite λ hpl=>?_
   show Snd G A fr _ (standAt pos>>=λ zz=>spliced (backTo pos (starEach es env))>>=λ vs=>newList vs) _ _
   refine rwg (plain_back hpl ..) ?_
   refine Snd.at_ ?_
   refine Snd.bind hP (args es) λ vs ws=>?_
   exact (newList_snd H.ne).pre λ zz zz q=>q.2
  | Tuple es k pos=>
   change Snd G A fr _ _ (if plainArgs es=true then (seqA (es.map λ v=>evE X n sc lc v)>>=λ vs=>if vs.length≤maxLen then pure (.tup vs) else PM.fail) else PM.fail:PM AV) (RV G)
   refine Snd.ite λ hpl=>?_
   show Snd G A fr _ (standAt pos>>=λ zz=>spliced (backTo pos (starEach es env))>>=λ vs=>newTuple vs) _ _
   refine rwg (plain_back hpl ..) ?_
   refine Snd.at_ ?_
   refine Snd.bind hP (args es) λ vs ws=>?_
   exact (newTuple_snd H.ne).pre λ zz zz q=>q.2
  | Dict ks es pos=>
   change Snd G A fr _ _ (if dictOk ks es=true then (seqA (es.map λ v=>evE X n sc lc v)>>=λ vs=>match keysOf ks with | some xs=>newO (.dict (xs.zip vs)) | none=>PM.fail) else PM.fail:PM AV) (RV G)
   exact Snd.ite λ hd=>dict_snd H.ne hP _ (λ e zz=>one e) hd
  | ListComp elt gens sc' pos=>
   cases gens with
   | nil=>exact Snd.fail
   | cons g gs=>
    obtain⟨tg,iter,ifs,ia⟩:=g
    cases tg with
    | Name x px=>
     cases ia with
     | negSucc zz=>exact Snd.fail
     | ofNat k=>
      cases k with
      | succ zz=>exact Snd.fail
      | zero=>
       cases gs with
       | cons zz zy=>exact Snd.fail
       | nil=>
        refine Snd.ite λ hc=>?_
        refine ex04 (hc) λ c1 c2 c3 c4=>?_
        have hfree:∀ y,sc'.names.lookup y=some .free→env.kindOf y=some .cell∨env.kindOf y=some .free:=λ y hy=>by
         unfold freesOk at c4
         rw [List.all_eq_true] at c4
         have:=c4 _ (lookup_mem hy)
         simp only [Bool.or_eq_true,decide_eq_true_eq] at this
         rcases this with (q | q) | q
         ·exact absurd rfl q
         ·exact .inl (N.cel y q)
         ·exact (N.fre y q).symm
        exact comp_snd (mt:=λ v t=>evT X n sc' (kvSet lc x v) t) (me:=λ v=>evE X n sc' (kvSet lc x v) elt) H N c1 c2 c3 (one iter) (λ cl Cx v t zz N'=>(ih sc' _ t _ N').2) (λ cl Cx v N'=>(ih sc' _ elt _ N').1) hfree
    | _=>exact Snd.fail
  | Compare l ops rs pos=>
   change Snd G A fr _ _ (if rs.all notSet=true then (evE X n sc lc l>>=λ a=>chainA a ops (rs.map λ v=>evE X n sc lc v)>>=λ b=>pure (.bool b)) else PM.fail:PM AV) (RV G)
   refine Snd.ite λ hns=>?_
   show Snd G A fr _ (eval l env>>=λ v=>compareChain pos v ops (markedEach ops rs (evalEach rs env))) _ _
   rw [marked_plain hns,each_map]
   refine Snd.bind hP (one l) λ a v=>?_
   intro ι σ s r σ' ht I hp e
   refine Snd.step (chain_snd hu hP (λ e=>evE X n sc lc e) λ e zz=>one e) ht I hp e (λ zz zz q=>q) λ b v h' tk ι' σ1 zz S I' hb q2=>?_
   cases q2
   exact⟨_,rfl,h',tk,ι',rfl,S,I',hb⟩
  | Call f as kw p=>
   cases kw with
   | cons zz zy=>exact Snd.fail
   | nil=>
    change Snd G A fr _ _ (match attrOf f with
     | some (o,x,ap)=>(match replArgs as with
      | some (a,b)=>if x=nm "replace"∧a=nm "-"∧b=nm ""∧ap.endLine=p.line∧baseOk o=true then (evE X n sc lc o>>=λ ov=>replA ov) else PM.fail
      | none=>if plainArgs as=true∧as.length < 20∧ap.endLine=p.line∧baseOk o=true then (evE X n sc lc o>>=λ ov=>methA X.T ov x>>=λ m=>seqA (as.map λ v=>evE X n sc lc v)>>=λ vs=>callM X m ov vs) else PM.fail)
     | none=>if plainArgs as=true∧as.length < 20 then (evE X n sc lc f>>=λ fv=>seqA (as.map λ v=>evE X n sc lc v)>>=λ vs=>callA X fv vs) else PM.fail:PM AV) (RV G)
    cases hf:attrOf f with
    | none=>exact Snd.ite λ hc=>plainCall_snd K H C hP (λ o x ap q=>by subst q;cases hf) (one f) (args as) hc.1
    | some t=>
     obtain⟨o,x,ap⟩:=t
     obtain rfl:=attrOf_at hf
     cases hr:replArgs as with
     | none=>exact Snd.ite λ hc=>methodCall_snd K H C hP (one o) (args as) hc.1 hc.2.1 hc.2.2.1 hc.2.2.2
     | some ab=>
      refine replArgs_at (P:=λ as=>Snd G A fr (Loc G env lc) (eval (.Call (.Attribute o x ap) as [] p) env) (if x=nm "replace"∧ab.1=nm "-"∧ab.2=nm ""∧ap.endLine=p.line∧baseOk o=true then (evE X n sc lc o>>=λ ov=>replA ov) else PM.fail:PM AV) (RV G)) hr λ k1 p1 k2 p2=>Snd.ite λ hc=>?_
      obtain⟨rfl,h0,h00,h1,h2⟩:=hc
      rw [h0,h00]
      exact replace_snd hP (one o) h1 h2
  | Attribute o x pos=>
   change Snd G A fr _ _ (if baseOk o=true then (evE X n sc lc o>>=λ ov=>attrA X.T ov x) else PM.fail:PM AV) (RV G)
   refine Snd.ite λ hb=>?_
   show Snd G A fr _ (attributeBase o x env (eval o env)>>=λ v=>standAt pos.atName>>=λ zz=>holding [v] (getAttr v x true)>>=λ r=>letTemporaryGo o v r>>=λ zz=>pure r) _ _
   rw [base_ok hb]
   refine Snd.bind hP (one o) λ a v=>?_
   rw [C.tab]
   exact Snd.at_ ((attr_snd K hL a v x o).pre λ zz zz q=>q.2)
  | Subscript o i pos=>
   have sub:Snd G A fr (Loc G env lc) (eval (.Subscript o i pos) env) (evE X n sc lc o>>=λ ov=>evE X n sc lc i>>=λ iv=>subA ov iv) (RV G):=by
    rw [eval_Subscript]
    refine Snd.bind hP (one o) λ a v=>?_
    refine Snd.bind (hP.and (Pers.rep a v)) (Snd.holding ((one i).pre λ zz zz q=>q.1)) λ b w=>?_
    exact Snd.at_ ((sub_snd a b v w o i).pre λ zz zz q=>⟨q.1.2,q.2⟩)
   cases i with
   | Slice lo hi st p=>
    cases st with
    | some zz=>exact sub
    | none=>
     change Snd G A fr _ _ (evE X n sc lc o>>=λ ov=>(match lo with | some e=>evE X n sc lc e | none=>pure .none)>>=λ l=>(match hi with | some e=>evE X n sc lc e | none=>pure .none)>>=λ h=>sliceA ov l h:PM AV) (RV G)
     rw [eval_Subscript]
     have part:∀ q:Option Expr,Snd G A fr (Loc G env lc) (evalPart q env) (match q with | some e=>evE X n sc lc e | none=>pure .none:PM AV) (RV G):=λ q=>by
      cases q with
      | none=>exact Snd.pure λ zz zz zz=>rfl
      | some e=>exact one e
     refine Snd.bind hP (one o) λ a v=>?_
     intro ι σ s r σ' ht I hp e
     obtain⟨hp,hv⟩:=hp
     refine wpAny_bind (wpAny_holding (wpAny_Slice ?_))
     refine Snd.step (part lo) ht I hp e (λ zz zz q=>q) λ l vl h1 tk1 ι1 σ1 ht1 S1 I1 hl q2=>?_
     refine Snd.step (part hi) (s:={ s with heap:=h1,toks:=tk1 }) ht1 I1 (hP _ _ _ _ _ I S1 hp) q2 (λ zz zy ⟨p',z,o⟩=>⟨p',z,ErP.after (s:=s) S1 o⟩) λ u vh h2 tk2 ι2 σ2 zz S2 I2 hh q4=>?_
     rw [evalPart_none]
     refine wpAny_pure (wpAny_bind (wpAny_standAt ?_))
     have key:=slice_wp (A:=A) (E:=ErS G fr ι s r σ') H.ne (s:={ s with heap:=h2,toks:=tk2 }) I2 (RepV.step I1 S2 mildNo _ _ (RepV.step I S1 mildNo _ _ hv)) (RepV.step I1 S2 mildNo _ _ hl) hh q4 o (.Slice lo hi none p) ⟨_,_,_,rfl⟩
     exact wpAny_mono key (λ zz zy ⟨b',e',o'⟩=>⟨b',e',o'.after (S1.trans S2)⟩) λ zz zz q=>q
   | _=>exact sub
  | _=>exact Snd.fail
 ·have gen:∀ e,Snd G A fr (Loc G env lc) (do let v ← eval e env;standAt e.pos;holding [v] (truthy v)) (evE X n sc lc e>>=λ v=>truthA v) RB:=λ e=>
   Snd.bind hP (one e) λ a v=>Snd.at_ (Snd.holding ((truth_snd a v).pre λ zz zz q=>q))
  cases e with
  | UnaryOp op x pos=>
   cases op with
   | Not=>
    change Snd G A fr _ (PySem.isTrue x env (eval x env)>>=λ b=>pure (!b)) (evT X n sc lc x>>=λ b=>pure !b) _
    refine Snd.bind hP (tst x) λ b t=>?_
    exact Snd.pure λ ι h q=>by
     have:t=b:=q.2
     subst this;rfl
   | _=>exact gen _
  | BoolOp op vs pos=>exact allTrue_snd hP _ λ e zz=>tst e
  | Compare l ops rs pos=>
   change Snd G A fr _ (eval l env>>=λ v=>testChain pos v ops (markedEach ops rs (evalEach rs env))) (if rs.all notSet=true then (evE X n sc lc l>>=λ a=>chainA a ops (rs.map λ v=>evE X n sc lc v)) else PM.fail) _
   refine Snd.ite λ hns=>?_
   rw [marked_plain hns,each_map]
   refine Snd.bind hP (one l) λ a v=>?_
   exact test_snd hu hP (λ e=>evE X n sc lc e) λ e zz=>one e
  | IfExp=>exact Snd.fail
  | _=>exact gen _
end
noncomputable def Wst (env:Env):Addr→Prop:=λ b=>b=env.locals∨∃ x,env.cells.lookup x=some b
structure Fn (G:Gd) (env:Env) (fr:List Addr):Prop where
 loc:∃ r,fr=env.locals :: r
 apart:∀ x y c,env.cells.lookup x=some c→env.cells.lookup y=some c→x=y
 cbase:∀ x c,env.cells.lookup x=some c→G.base.get? c=none
section
variable {G:Gd} {A:Around} {fr:List Addr} {d:Nat} {env:Env} {β:Type}
inductive OkW (G:Gd) (fr:List Addr) (W:Addr→Prop) (ι:Img) (s:Shared) (R:β→Img→Heap→Prop) (σ':AH) (v:β) (s':Shared):Prop
 | mk (h':Heap) (tk:Nat) (ι':Img) (e:s' = { s with heap:=h',toks:=tk }) (S:Step W fr ι ι' s.heap h') (I:Inv G fr ι' σ' h') (r:R v ι' h')
inductive ErW (G:Gd) (fr:List Addr) (W:Addr→Prop) (ι:Img) (s:Shared) (t:Bool) (p:AV) (σ':AH) (e:Value) (s':Shared):Prop
 | mk (h':Heap) (tk:Nat) (ι':Img) (x:Addr) (es:s' = { s with heap:=h',toks:=tk }) (ex:e = .ref x) (S:Step W fr ι ι' s.heap h') (I:Inv G fr ι' σ' h') (F:Fly G ι' s.heap h' x p t)
theorem Fly.any {ι:Img} {h₀ h:Heap} {x:Addr} {p:AV} (F:Fly G ι h₀ h x p true):Fly G ι h₀ h x p false:=by
 obtain⟨dx,vs,es,n,sl,u,h1,h2,h3,h4,h5,h6,h7⟩:=F.there
 refine⟨F.new,dx,vs,es,n,sl,u,h1,h2,h3,h4,h5,h6,?_⟩
 rcases h7 with ⟨_,q⟩ | q
 ·cases q
 ·exact .inr q
theorem ErP.toW {W:Addr→Prop} {ι:Img} {s:Shared} {p:AV} {σ':AH} {e:Value} {s':Shared} (x:ErP G fr ι s p σ' e s'):ErW G fr W ι s false p σ' e s':=by
 obtain⟨h',tk,ι',y,h1,h2,S,I,F⟩:=x
 exact⟨h',tk,ι',y,h1,h2,S.wide (λ zz q=>q.elim),I,F.any⟩
theorem OkP.toW {W:Addr→Prop} {ι:Img} {s:Shared} {R:β→Img→Heap→Prop} {σ':AH} {v:β} {s':Shared} (x:OkP G fr ι s R σ' v s'):OkW G fr W ι s R σ' v s':=by
 obtain⟨h',tk,ι',h1,S,I,F⟩:=x
 exact⟨h',tk,ι',h1,S.wide (λ zz q=>q.elim),I,F⟩
theorem OkW.after {W:Addr→Prop} {ι ι₁:Img} {s:Shared} {h₁:Heap} {tk:Nat} {R:β→Img→Heap→Prop} {σ':AH} {v:β} {s':Shared} (S:Step W fr ι ι₁ s.heap h₁) (x:OkW G fr W ι₁ { s with heap:=h₁,toks:=tk } R σ' v s'):OkW G fr W ι s R σ' v s':=by
 obtain⟨h',tk',ι',rfl,S',I',r⟩:=x
 exact⟨h',tk',ι',rfl,S.trans S',I',r⟩
theorem ErW.after {W:Addr→Prop} {ι ι₁:Img} {s:Shared} {h₁:Heap} {tk:Nat} {t:Bool} {p:AV} {σ':AH} {e:Value} {s':Shared} (S:Step W fr ι ι₁ s.heap h₁) (x:ErW G fr W ι₁ { s with heap:=h₁,toks:=tk } t p σ' e s'):ErW G fr W ι s t p σ' e s':=by
 obtain⟨h',tk',ι',x,rfl,rfl,S',I',F⟩:=x
 exact⟨h',tk',ι',x,rfl,rfl,S.trans S',I',F.mono λ b o e=>S.alive b o e⟩
theorem wst_mild {lc:Lc} {ι:Img} {h:Heap} (L:Loc G env lc ι h):Mild (Wst env) h:=λ b o e w=>by
 rcases w with rfl | ⟨x,hx⟩
 ·refine ex12 (L.ns) λ m hm zz=>?_
  exact nsMild hm o e
 ·obtain⟨v,⟨o',h1,h2⟩,_⟩:=L.cells x b hx
  rw [h1] at e;cases e
  exact⟨λ zz v n z=>(by rw [h2] at z;cases z),λ zz v z=>(by rw [h2] at z;cases z)⟩
theorem RepV.wst {lc:Lc} {ι ι':Img} {σ:AH} {h h':Heap} (L:Loc G env lc ι h) (I:Inv G fr ι σ h) (S:Step (Wst env) fr ι ι' h h') {a:AV} {v:Value} (x:RepV G ι h a v):RepV G ι' h' a v:=RepV.step I S (wst_mild L) a v x
theorem store_local (H:At A fr d) (F:Fn G env fr) {sc:Scope} (N:En env sc fr) {lc:Lc} {x:Str} {a:AV} {v:Value} {s:Shared} {ι:Img} {σ:AH} (hx:env.kindOf x=some .local) (I:Inv G fr ι σ s.heap) (L:Loc G env lc ι s.heap) (hv:RepV G ι s.heap a v)
  {M:Model} {A':Around} {Q:Unit→Shared→Prop} {E:Value→Shared→Prop} (h:∀ h' tk,Step (Wst env) fr ι ι s.heap h'→Inv G fr ι σ h'→Loc G env (kvSet lc x a) ι h'→Q () { s with heap:=h',toks:=tk }):
  wpAny M A' (storeName env x v) Q E s:=by
 refine ex12 (L.ns) λ m hm hl=>?_
 have hp:(env.scope.kind == .class || (env.scope.kind == .module && env.locals != env.globals))=false:=by rw [N.kind];rfl
 refine wpAny_storeName_local hx hm (λ h' hn' hs=>?_) hp
 obtain⟨r,hfr⟩:=F.loc
 have hmem:env.locals∈fr:=by rw [hfr];exact .head _
 have mi:=wst_mild L
 have mi':Mild (λ b=>b=env.locals) s.heap:=λ b o e w=>mi b o e (.inl w)
 obtain⟨I',S⟩:=I.away (W:=λ b=>b=env.locals) H.ne (h':=h') (λ b q=>by
   subst q
   exact Heap.get?_none_of_le (I.frames _ hmem).2.2) (λ b q=>q▸L.own) mi' (λ b o w zz e=>(hs.2 b w).trans e) (λ b zz w m e=>e.sameBut hs w) (λ b zz w=>w▸⟨_,hn'⟩) (λ b o w zz=>by obtain⟨o',_,_,e',_⟩:=hn';exact⟨o',w▸e'⟩)
 have ne:∀ y c,env.cells.lookup y=some c→c≠env.locals:=λ y c e q=>by
  obtain⟨w,⟨o,h1,h2⟩,_⟩:=L.cells y c e
  refine ex32 (ns_dict hm) λ o' es ep h3 h4=>?_
  rw [q,h3] at h1;cases h1;rw [h4] at h2;cases h2
 refine h h' _ (S.wide λ b q=>.inl q) I' ⟨⟨_,hn',λ y b e k=>?_⟩,λ y c e=>?_,L.has,L.own⟩
 ·rw [kvGet_set] at e
  by_cases hxy:x=y
  ·clear E A' M h L hx N F H k hs hn' hl hm ne mi hmem hp I' hfr r Q sc
   subst hxy
   rw [if_pos rfl] at e
   cases e
   exact⟨v,if_pos rfl,RepV.step I S mi' _ _ hv⟩
  ·rw [if_neg hxy] at e
   refine ex12 (hl y b e k) λ u h1 h2=>?_
   exact⟨u,by rw [if_neg (Ne.symm hxy)];exact h1,RepV.step I S mi' _ _ h2⟩
 ·obtain⟨w,⟨o,h1,h2⟩,hr⟩:=L.cells y c e
  refine⟨w,⟨o,(hs.2 c (ne y c e)).trans h1,h2⟩,λ b eb k=>?_⟩
  rw [kvGet_set] at eb
  by_cases hxy:x=y
  ·clear E A' M h hv L I N F H eb e hs hn' ne mi' mi hmem hp hr h2 h1 o S I' hfr r hl hm m Q σ s v a lc sc c
   subst hxy
   rw [hx] at k
   rcases k with k | k<;>cases k
  ·rw [if_neg hxy] at eb
   refine ex12 (hr b eb k) λ u g1 g2=>?_
   exact⟨u,g1,RepV.step I S mi' _ _ g2⟩
theorem store_cell (H:At A fr d) (F:Fn G env fr) {sc:Scope} (N:En env sc fr) {lc:Lc} {x:Str} {a:AV} {v:Value} {s:Shared} {ι:Img} {σ:AH} (hx:env.kindOf x=some .cell) (I:Inv G fr ι σ s.heap) (L:Loc G env lc ι s.heap) (hv:RepV G ι s.heap a v)
  {M:Model} {Q:Unit→Shared→Prop} {E:Value→Shared→Prop} (h:∀ h' tk,Step (Wst env) fr ι ι s.heap h'→Inv G fr ι σ h'→Loc G env (kvSet lc x a) ι h'→Q () { s with heap:=h',toks:=tk }):
  wpAny M A (storeName env x v) Q E s:=by
 obtain⟨c,hc⟩:=L.has x (.inl hx)
 refine ex12 (L.cells x c hc) λ w0 hcell zz=>?_
 refine wpAny_storeName_cell N.kind hx hc hcell (λ h' hc' hs=>?_)
 have mi:=wst_mild L
 have mi':Mild (λ b=>b=c) s.heap:=λ b o e w=>mi b o e (.inr ⟨x,w▸hc⟩)
 obtain⟨hco,hcf⟩:=I.cellFree hcell
 obtain⟨I',S⟩:=I.away (W:=λ b=>b=c) H.ne (h':=h') (λ b q=>q▸F.cbase x c hc) (λ b q=>q▸hco) mi' (λ b o w zz e=>(hs.2 b w).trans e) (λ b zz w m e=>e.sameBut hs w) (λ b hb w=>absurd hb (w▸hcf)) (λ b o w zz=>by obtain⟨o',e',_⟩:=hc';exact⟨o',w▸e'⟩)
 refine ex12 (L.ns) λ m hm hl=>?_
 have nl:env.locals≠c:=λ q=>by
  refine ex12 (hcell) λ o h1 h2=>?_
  refine ex32 (ns_dict hm) λ o' es ep h3 h4=>?_
  rw [← q,h3] at h1;cases h1;rw [h4] at h2;cases h2
 refine h h' s.toks (S.wide λ b q=>.inr ⟨x,q▸hc⟩) I' ⟨⟨m,hm.sameBut hs nl,λ y b e k=>?_⟩,λ y c' e=>?_,L.has,L.own⟩
 ·rw [kvGet_set] at e
  by_cases hxy:x=y
  ·clear E M h hv L I N F H e hs hc' nl mi' mi hl hm S I' hcf hco hcell hc c Q σ v a sc
   subst hxy;rw [hx] at k;cases k
  ·rw [if_neg hxy] at e
   refine ex12 (hl y b e k) λ u h1 h2=>?_
   exact⟨u,h1,RepV.step I S mi' _ _ h2⟩
 ·by_cases hcc:c'=c
  ·clear E M h L hx N H hs nl mi hl hm m I' hcf hco hcell Q sc
   subst hcc
   have hxy:x=y:=F.apart x y c' hc e
   subst hxy
   refine⟨_,hc',λ b eb zz=>?_⟩
   rw [kvGet_set,if_pos rfl] at eb
   cases eb
   exact⟨v,rfl,RepV.step I S mi' _ _ hv⟩
  ·obtain⟨w,⟨o,h1,h2⟩,hr⟩:=L.cells y c' e
   refine⟨w,⟨o,(hs.2 c' hcc).trans h1,h2⟩,λ b eb k=>?_⟩
   have hxy:x≠y:=by rintro rfl;rw [hc] at e;cases e;exact hcc rfl
   rw [kvGet_set,if_neg hxy] at eb
   refine ex12 (hr b eb k) λ u g1 g2=>?_
   exact⟨u,g1,RepV.step I S mi' _ _ g2⟩
inductive StoreQ (G:Gd) (fr:List Addr) (env:Env) (ι:Img) (s:Shared) (r:Except AV Lc) (σ':AH) (s':Shared):Prop
 | mk (lc':Lc) (h':Heap) (tk:Nat) (ι':Img) (hr:r = .ok lc') (es:s' = { s with heap:=h',toks:=tk }) (S:Step (Wst env) fr ι ι' s.heap h') (I:Inv G fr ι' σ' h') (L:Loc G env lc' ι' h')
theorem Snd.rel {P:Img→Heap→Prop} {b:Lc} {R:Lc→Unit→Img→Heap→Prop} {vs keep:List Value} (h:∀ {u ι h},R b u ι h):Snd G A fr P (release vs keep) (Pure.pure b) R:=.val λ zz zz zz zz q=>wp_release (q _ _ h)
theorem assignOne_snd (K:Gok G) (H:At A fr d) {X:Cx} (C:CallOk G A fr X) (F:Fn G env fr) {sc:Scope} (N:En env sc fr) (n:Nat) {lc:Lc} {t:Expr} {a:AV} {v:Value} {s:Shared} {ι:Img} {σ:AH} {r:Except AV Lc} {σ':AH} (ht:0 < s.toks) (I:Inv G fr ι σ s.heap) (L:Loc G env lc ι s.heap) (hv:RepV G ι s.heap a v)
  (e:assignOne X n sc lc a t σ=some (r,σ')):wpAny (model G.prog G.w) A (assign t env v) (λ zz s'=>StoreQ G fr env ι s r σ' s') (ErS G fr ι s r σ') s:=by
 have one:∀ e,Snd G A fr (Loc G env lc) (eval e env) (evE X n sc lc e) (RV G):=λ e=>(ev_snd K H C n sc lc e env N).1
 have hL:∃ L,L∈fr:=by obtain⟨q,hq⟩:=F.loc;exact⟨_,by rw [hq];exact .head _⟩
 have fin:∀ {t:Sem Unit} {m:PM Lc},Snd G A fr (λ ι h=>Loc G env lc ι h∧RepV G ι h a v) t m (λ b zz zz zz=>b=lc)→m σ=some (r,σ')→wpAny (model G.prog G.w) A t (λ zz s'=>StoreQ G fr env ι s r σ' s') (ErS G fr ι s r σ') s:=λ x e=>
  wpAny_mono (x ι σ s r σ' ht I ⟨L,hv⟩ e) (λ zz s' q=>by
   clear hv ht N F C H K x e hL one v
   obtain⟨b,rfl,h2,tk2,ι2,rfl,S2,I2,rfl⟩:=q
   exact⟨_,h2,tk2,ι2,rfl,rfl,S2.wide (λ zz q=>q.elim),I2,Pers.loc _ _ _ _ _ I S2 L⟩) λ zz zz q=>q
 have setAttr_x:∀ (ov:AV) (u:Value) {x:Str},Snd G A fr (λ ι h=>RepV G ι h ov u∧RepV G ι h a v) (setAttr u x v) (setAttrA X.T ov x a) (λ zz zz zz zz=>True):=C.tab▸λ ov u {x}=>setAttr_snd K hL ov a u v x
 have P1:Pers G fr (λ ι h=>Loc G env lc ι h∧RepV G ι h a v):=Pers.loc.and (.rep a v)
 cases t with
 | Name x pos=>
  replace e:(match sc.names.lookup x with | some .local=>pure (kvSet lc x a) | some .cell=>pure (kvSet lc x a) | _=>PM.fail:PM Lc) σ=some (r,σ'):=e
  clear ht C K P1 setAttr_x fin hL one X n
  cases hx:sc.names.lookup x with
  | none=>rw [hx] at e;cases e
  | some k=>
   rw [hx] at e
   cases k
   case «local»=>
    cases e
    exact wpAny_assign_Name (store_local H F N (N.loc x hx) I L hv λ h' tk S I' L'=>⟨_,h',tk,ι,rfl,rfl,S,I',L'⟩)
   case cell=>
    cases e
    exact wpAny_assign_Name (store_cell H F N (N.cel x hx) I L hv λ h' tk S I' L'=>⟨_,h',tk,ι,rfl,rfl,S,I',L'⟩)
   all_goals cases e
 | Attribute o x pos=>
  refine rwg (assign_Attribute ..) ?_
  exact fin (Snd.bind P1 ((one o).pre λ zz zz q=>q.1).holding λ ov u=>.at_ (.bind (P1.and (.rep ov u)) (.holding ((setAttr_x ov u).pre λ zz zz q=>⟨q.2,q.1.2⟩)) λ zz zz=>.rel rfl)) e
 | Subscript o i pos=>
  refine rwg (assign_Subscript ..) ?_
  exact fin (Snd.bind P1 ((one o).pre λ zz zz q=>q.1).holding λ ov u=>.bind (P1.and (.rep ov u)) ((one i).pre λ zz zz q=>q.1.1).holding λ iv w=>.at_ (.bind ((P1.and (.rep ov u)).and (.rep iv w)) ((setItem_snd ov iv a u w v).pre λ zz zz q=>⟨q.1.2,q.2,q.1.1.2⟩).holding λ zz zz=>.rel rfl)) e
 | _=>cases e
end
theorem two_map {α β:Type} {f:α→Option β} {a b:α} (h:([a,b].filterMap f).length=2):∃ x y,f a=some x∧f b=some y∧[a,b].filterMap f=[x,y]:=by
 cases ha:f a with
 | none=>
  rw [List.filterMap_cons_none ha] at h
  have:=List.length_filterMap_le f [b]
  simp only [List.length_cons,List.length_nil] at this
  lia
 | some x=>
  cases hb:f b with
  | none=>rw [List.filterMap_cons_some ha,List.filterMap_cons_none hb] at h;simp at h
  | some y=>exact⟨x,y,rfl,rfl,by rw [List.filterMap_cons_some ha,List.filterMap_cons_some hb];rfl⟩
inductive Swp (t1 t2:Expr) (k:Nat) (p:Pos) (v:Expr) (env:Env):Prop
 | no (h:swappedStores [.Tuple [t1,t2] k p] v env=pure none)
 | yes (n1:Str) (p1:Pos) (n2:Str) (p2:Pos) (e1:t1 = .Name n1 p1) (e2:t2 = .Name n2 p2) (hne:n1≠n2) (k1:env.kindOf n1=some .local) (k2:env.kindOf n2=some .local) (h:swappedStores [.Tuple [t1,t2] k p] v env=pure (some [n1,n2]))
set_option backward.match.sparseCases true in
noncomputable def nameAt (env:Env) (line:Nat):Expr→Option Str
 | .Name id pos=>if (env.kindOf id == some .local && pos.line == line)=true then some id else none
 | _=>none
theorem nameAt_is {env:Env} {line:Nat} {t:Expr} {n:Str} (h:nameAt env line t=some n):∃ q,t = .Name n q∧env.kindOf n=some .local:=by
 cases t with
 | Name id q=>
  by_cases hc:(env.kindOf id == some .local && q.line == line)=true
  ·cases (if_pos hc).symm.trans h
   rw [Bool.and_eq_true,beq_iff_eq] at hc
   exact⟨q,rfl,hc.1⟩
  ·exact no_none ((if_neg hc).symm.trans h)
 | _=>cases h
theorem swapped_of (t1 t2:Expr) (k:Nat) (p:Pos) (v:Expr) (env:Env) (hk:(match v with | .Tuple vs zz zy=>!(vs.all (constantsAlone 8)) | _=>true)=true):Swp t1 t2 k p v env:=by
 cases v with
 | Tuple vs k' p'=>
  by_cases c1:(!(([t1,t2].length == 2) || ([t1,t2].length == 3)) || vs.length != [t1,t2].length || env.blockKind != .function)=true
  ·exact .no (if_pos c1)
  by_cases c2:(set_option backward.match.sparseCases true in vs.any (λ | .Starred ..=>true | _=>false))=true
  ·exact .no ((if_neg c1).trans (if_pos c2))
  by_cases c3:(([t1,t2].filterMap (nameAt env t1.pos.line)).length != [t1,t2].length || ([t1,t2].filterMap (nameAt env t1.pos.line)).eraseDups.length != ([t1,t2].filterMap (nameAt env t1.pos.line)).length)=true
  ·exact .no ((if_neg c1).trans ((if_neg c2).trans (if_pos c3)))
  by_cases c4:vs.all (foldedForSure 8)=true
  ·exact .no ((if_neg c1).trans ((if_neg c2).trans ((if_neg c3).trans (if_pos c4))))
  have e:swappedStores [.Tuple [t1,t2] k p] (.Tuple vs k' p') env=pure (some ([t1,t2].filterMap (nameAt env t1.pos.line))):=(if_neg c1).trans ((if_neg c2).trans ((if_neg c3).trans ((if_neg c4).trans (if_neg (by simpa using hk)))))
  clear c1 c2 c4 hk
  simp only [Bool.or_eq_true,not_or,Bool.not_eq_true,bne_eq_false_iff_eq] at c3
  refine ex23 (two_map c3.1) λ n1 n2 f1 f2 hf=>?_
  have hd:=c3.2
  rw [hf] at hd e
  clear hf
  obtain⟨q1,rfl,k1⟩:=nameAt_is f1
  obtain⟨q2,rfl,k2⟩:=nameAt_is f2
  exact .yes n1 q1 n2 q2 rfl rfl (by rintro rfl;simp [List.eraseDups_cons] at hd) k1 k2 e
 | _=>exact .no rfl
section
variable {G:Gd} {A:Around} {fr:List Addr} {d:Nat} {env:Env} {β:Type}
theorem plain_each:∀ {es:List Expr} (env:Env),plainArgs es=true→assignEach es env=es.map λ e=>(false,assign e env)
 | [],zz,zy=>rfl
 | e :: r,env,h=>by
  obtain⟨h1,h2⟩:=(Bool.and_eq_true_iff.mp ((List.all_cons).symm.trans h):_∧plainArgs r=true)
  have hd:assignEach (e :: r) env=(false,assign e env) :: assignEach r env:=by cases e<;>first | rfl | cases h1
  rw [hd,plain_each env h2];rfl
theorem Loc.congr {lc lc':Lc} {ι:Img} {h:Heap} (L:Loc G env lc ι h) (e:∀ x,kvGet lc' x=kvGet lc x):Loc G env lc' ι h:=by
 refine ex12 (L.ns) λ m hm hl=>?_
 exact⟨⟨m,hm,λ x a q k=>hl x a (by rw [← e];exact q) k⟩,λ x c q=>let ⟨v,h1,h2⟩:=L.cells x c q;⟨v,h1,λ a qa k=>h2 a (by rw [← e];exact qa) k⟩,L.has,L.own⟩
theorem StoreQ.after {ι ι₁:Img} {s:Shared} {h₁:Heap} {tk:Nat} {r:Except AV Lc} {σ':AH} {s':Shared} (S:Step (Wst env) fr ι ι₁ s.heap h₁) (x:StoreQ G fr env ι₁ { s with heap:=h₁,toks:=tk } r σ' s'):StoreQ G fr env ι s r σ' s':=by
 obtain⟨lc',h',tk',ι',rfl,rfl,S',I',L'⟩:=x
 exact⟨lc',h',tk',ι',rfl,rfl,S.trans S',I',L'⟩
theorem assignA_cases {X:Cx} {n:Nat} {sc:Scope} {lc:Lc} {P:Expr→AV→PM Lc→Prop} (hf:∀ {t a},P t a PM.fail) (h1:∀ t1 t2 k p v1 v2,P (.Tuple [t1,t2] k p) (.tup [v1,v2]) (assignOne X n sc lc v1 t1>>=λ lc1=>assignOne X n sc lc1 v2 t2))
  (h2:∀ t a,P t a (assignOne X n sc lc a t)):∀ t a,P t a (assignA X n sc lc a t):=by
 intro t a
 cases t with
 | Tuple ts k p=>
  refine list2 ts (h2 _ _) (λ zz=>h2 _ _) (λ t1 t2=>?_) λ zz zz zz zz=>h2 _ _
  cases a with
  | tup l=>exact list2 l hf (λ zz=>hf) (λ v1 v2=>h1 ..) λ zz zz zz zz=>hf
  | _=>exact hf
 | _=>exact h2 _ _
theorem assign_snd (K:Gok G) (H:At A fr d) {X:Cx} (C:CallOk G A fr X) (F:Fn G env fr) {sc:Scope} (N:En env sc fr) (n:Nat) {lc:Lc} {t:Expr} {a:AV} {v:Value} {s:Shared} {ι:Img} {σ:AH} {r:Except AV Lc} {σ':AH} (ht:0 < s.toks) (I:Inv G fr ι σ s.heap) (L:Loc G env lc ι s.heap) (hv:RepV G ι s.heap a v)
  (hpl:∀ ts k p,t = .Tuple ts k p→plainArgs ts=true)
  (e:assignA X n sc lc a t σ=some (r,σ')):wpAny (model G.prog G.w) A (assign t env v) (λ zz s'=>StoreQ G fr env ι s r σ' s') (λ e s'=>∃ p,r = .error p∧ErW G fr (Wst env) ι s false p σ' e s') s:=by
 revert hv hpl e
 refine assignA_cases (P:=λ t a m=>RepV G ι s.heap a v→(∀ ts k p,t = .Tuple ts k p→plainArgs ts=true)→m σ=some (r,σ')→wpAny (model G.prog G.w) A (assign t env v) (λ zz s'=>StoreQ G fr env ι s r σ' s') (λ e s'=>∃ p,r = .error p∧ErW G fr (Wst env) ι s false p σ' e s') s) (λ zz zz e=>no_none e) ?_ ?_ t a
 ·intro t1 t2 k p v1 v2 hv hpl e
  refine ex24 (hv) λ a0 vs rr2 htup hr zz=>?_
  subst rr2
  refine ex23 (reps2 hr) λ u1 u2 rr2 r1 r2=>?_
  subst rr2
  have hp:=hpl _ _ _ rfl
  have hse:assignEach [t1,t2] env=[(false,assign t1 env),(false,assign t2 env)]:=plain_each env hp
  refine assign_Tuple_tuple H.handled htup (by rw [hse];rfl) (by rw [hse];rfl) λ h' hs=>?_
  refine rwg (hse ..) ?_
  have I1:=(I.keeps H.ne (.of (λ b o q=>hs b o (by rintro rfl;rw [get_size] at q;cases q) q))).1
  have S1:=(I.keeps H.ne (.of (λ b o q=>hs b o (by rintro rfl;rw [get_size] at q;cases q) q))).2
  have L1:=Pers.loc _ _ _ _ _ I S1 L
  show wpAny _ A (holding [u2] (assign t1 env u1)>>=λ zz=>assignInOrder [assign t2 env] [u2]) _ _ _
  rcases andThen_cases e with ⟨p,q1,rfl⟩ | ⟨lc1,σ1,q1,q2⟩
  ·refine wpAny_bind (wpAny_holding (wpAny_mono (assignOne_snd K H C F N n (s:={ s with heap:=h' }) ht I1 L1 (RepV.step I S1 mildNo _ _ r1) q1) ?_ ?_))
   ·rintro _ _ ⟨_,_,_,_,z,_⟩;cases z
   ·rintro e s' ⟨p',z,o⟩;cases z;exact⟨_,rfl,ErP.toW (ErP.after (s:=s) (tk:=s.toks) S1 o)⟩
  ·refine wpAny_bind (wpAny_holding (wpAny_mono (wpAny_toks (assignOne_snd K H C F N n (s:={ s with heap:=h' }) ht I1 L1 (RepV.step I S1 mildNo _ _ r1) q1)) ?_ ?_))
   ·rintro _ s1 ⟨⟨lc2,h2,tk2,ι2,z,rfl,S2,I2,L2⟩,htk⟩
    cases z
    have S12:Step (Wst env) fr ι ι2 s.heap h2:=(S1.wide (λ zz q=>q.elim)).trans S2
    show wpAny _ A (holding [] (assign t2 env u2)>>=λ zz=>assignInOrder [] []) _ _ _
    refine wpAny_bind (wpAny_holding (wpAny_mono (assignOne_snd K H C F N n (s:={ s with heap:=h2,toks:=tk2 }) (Nat.lt_of_lt_of_le ht htk) I2 L2 (RepV.wst L1 I1 S2 (RepV.step I S1 mildNo _ _ r2)) q2) ?_ ?_))
    ·intro _ s' z
     exact wpAny_pure (z.after S12)
    ·rintro e s' ⟨p',rfl,o⟩;exact⟨_,rfl,ErW.after S12 (ErP.toW o)⟩
   ·exact λ zz zz q=>q.1.no
 ·intro t a hv _ e
  refine wpAny_mono (assignOne_snd K H C F N n ht I L hv e) (λ zz zz q=>q) ?_
  rintro e s' ⟨p,hr,o⟩
  exact⟨p,hr,o.toW⟩
end
theorem hide {T:Prop} (h:∀ P:Prop,(T→P)→P):T:=h T id
section
variable {G:Gd} {A:Around} {fr:List Addr} {d:Nat} {env:Env} {β:Type}
inductive FlowN (G:Gd) (fr:List Addr) (env:Env) (k:Lc→PM AV) (r:Except AV AV) (σ':AH) (ι:Img) (s:Shared) (s':Shared):Prop
 | mk (lc':Lc) (h':Heap) (tk:Nat) (ι':Img) (σ1:AH) (e:s' = { s with heap:=h',toks:=tk }) (S:Step (Wst env) fr ι ι' s.heap h') (I:Inv G fr ι' σ1 h') (L:Loc G env lc' ι' h') (k:k lc' σ1=some (r,σ'))
inductive FlowR (G:Gd) (fr:List Addr) (env:Env) (r:Except AV AV) (σ':AH) (ι:Img) (s:Shared) (v:Value) (s':Shared):Prop
 | mk (b:AV) (z:r = .ok b) (o:OkW G fr (Wst env) ι s (RV G b) σ' v s')
noncomputable def FlowQ (G:Gd) (fr:List Addr) (env:Env) (k:Lc→PM AV) (r:Except AV AV) (σ':AH) (ι:Img) (s:Shared):Flow→Shared→Prop
 | .next,s'=>FlowN G fr env k r σ' ι s s'
 | .ret v,s'=>FlowR G fr env r σ' ι s v s'
 | zz,zy=>False
inductive FlowE (G:Gd) (fr:List Addr) (env:Env) (r:Except AV AV) (σ':AH) (ι:Img) (s:Shared) (e:Value) (s':Shared):Prop
 | mk (p:AV) (z:r = .error p) (o:ErW G fr (Wst env) ι s false p σ' e s')
theorem FlowR.after {r:Except AV AV} {σ':AH} {ι ι₁:Img} {s:Shared} {h₁:Heap} {tk:Nat} {v:Value} {s':Shared} (S:Step (Wst env) fr ι ι₁ s.heap h₁) (x:FlowR G fr env r σ' ι₁ { s with heap:=h₁,toks:=tk } v s'):FlowR G fr env r σ' ι s v s':=
 let ⟨b,e,o⟩:=x;⟨b,e,o.after S⟩
theorem FlowE.after {r:Except AV AV} {σ':AH} {ι ι₁:Img} {s:Shared} {h₁:Heap} {tk:Nat} {v:Value} {s':Shared} (S:Step (Wst env) fr ι ι₁ s.heap h₁) (x:FlowE G fr env r σ' ι₁ { s with heap:=h₁,toks:=tk } v s'):FlowE G fr env r σ' ι s v s':=
 let ⟨b,e,o⟩:=x;⟨b,e,o.after S⟩
theorem FlowN.after {k:Lc→PM AV} {r:Except AV AV} {σ':AH} {ι ι₁:Img} {s:Shared} {h₁:Heap} {tk:Nat} {s':Shared} (S:Step (Wst env) fr ι ι₁ s.heap h₁) (x:FlowN G fr env k r σ' ι₁ { s with heap:=h₁,toks:=tk } s'):FlowN G fr env k r σ' ι s s':=by
 obtain⟨lc',h',tk',ι',σ1,rfl,S',I',L',e⟩:=x
 exact⟨lc',h',tk',ι',σ1,rfl,S.trans S',I',L',e⟩
theorem FlowQ.after {k:Lc→PM AV} {r:Except AV AV} {σ':AH} {ι ι₁:Img} {s:Shared} {h₁:Heap} {tk:Nat} {f:Flow} {s':Shared} (S:Step (Wst env) fr ι ι₁ s.heap h₁) (x:FlowQ G fr env k r σ' ι₁ { s with heap:=h₁,toks:=tk } f s'):FlowQ G fr env k r σ' ι s f s':=by
 cases f with
 | next=>exact FlowN.after S x
 | ret v=>exact FlowR.after S x
 | brk=>exact x
 | cont=>exact x
theorem nowW {ι ι':Img} {h h':Heap} {W:Addr→Prop} (S:Step NoW fr ι ι' h h'):Step W fr ι ι' h h':=S.wide λ zz q=>q.elim
noncomputable def StOk (G:Gd) (A:Around) (fr:List Addr) (X:Cx) (n:Nat):Prop:=∀ (sc:Scope) (st:Stmt) (lc:Lc) (k:Lc→PM AV) (env:Env),En env sc fr→Fn G env fr→∀ (ι:Img) (σ:AH) (s:Shared) (r:Except AV AV) (σ':AH),
 0 < s.toks→Inv G fr ι σ s.heap→Loc G env lc ι s.heap→exS X n sc st lc k σ=some (r,σ')→wpAny (model G.prog G.w) A (exec st env) (FlowQ G fr env k r σ' ι s) (FlowE G fr env r σ' ι s) s
noncomputable def SsOk (G:Gd) (A:Around) (fr:List Addr) (X:Cx) (n:Nat):Prop:=∀ (sc:Scope) (st:List Stmt) (lc:Lc) (k:Lc→PM AV) (env:Env),En env sc fr→Fn G env fr→∀ (ι:Img) (σ:AH) (s:Shared) (r:Except AV AV) (σ':AH),
 0 < s.toks→Inv G fr ι σ s.heap→Loc G env lc ι s.heap→exSs X n sc st lc k σ=some (r,σ')→wpAny (model G.prog G.w) A (execs st env) (FlowQ G fr env k r σ' ι s) (FlowE G fr env r σ' ι s) s
noncomputable def RaOk (G:Gd) (A:Around) (fr:List Addr) (X:Cx):Prop:=∀ (n:Nat) (sc:Scope) (lc:Lc) (env:Env) (c:Expr) (args:List Expr) (p1 pos:Pos),En env sc fr→Fn G env fr→∀ (ι:Img) (σ:AH) (s:Shared) (r:Except AV AV) (σ':AH),
 0 < s.toks→Inv G fr ι σ s.heap→Loc G env lc ι s.heap→(do let cv ← evE X n sc lc c;let vs ← seqA (args.map λ v=>evE X n sc lc v);raiseA X.T cv vs:PM AV) σ=some (r,σ')→plainArgs args=true→(∀ o x ap,c≠.Attribute o x ap) →
 wpAny (model G.prog G.w) A (exec (.Raise (some (.Call c args [] p1)) none pos) env) (λ zz zz=>False) (FlowE G fr env r σ' ι s) s
noncomputable def TrOk (G:Gd) (A:Around) (fr:List Addr) (X:Cx):Prop:=∀ (n:Nat) (sc:Scope) (lc:Lc) (k:Lc→PM AV) (env:Env) (e:Expr) (c x:Str) (p1 p2 p3 p4 p5 p6 pos:Pos),En env sc fr→Fn G env fr→∀ (ι:Img) (σ:AH) (s:Shared) (r:Except AV AV) (σ':AH),
 0 < s.toks→Inv G fr ι σ s.heap→Loc G env lc ι s.heap→sc.names.lookup x=some .local→sc.names.lookup c=some .globalImplicit→X.T.glob c=some (.val X.T.exc)→notComp e=true→tryA (evE X n sc lc e) (k lc) σ=some (r,σ') →
 wpAny (model G.prog G.w) A (exec (.Try [.Expr e p1] [.ExceptHandler (some (.Name c p2)) (some x) [.Return (some (.Attribute (.Name x p3) (nm "place") p4)) p5] p6] [] [] pos) env) (FlowQ G fr env k r σ' ι s) (FlowE G fr env r σ' ι s) s
theorem ss_step (X:Cx) {n:Nat} (H1:StOk G A fr X n) (H2:SsOk G A fr X n):SsOk G A fr X (n + 1):=by
 intro sc st lc k env N F ι σ s r σ' ht I L e
 unfold exSs at e
 cases st with
 | nil=>
  refine rwg (execs_nil ..) ?_
  exact wpAny_pure ⟨lc,s.heap,s.toks,ι,σ,rfl,.refl,I,L,e⟩
 | cons st rest=>
  refine rwg (execs_cons ..) ?_
  refine wpAny_bind (wpAny_mono (wpAny_toks (H1 sc st lc _ env N F ι σ s r σ' ht I L e)) ?_ λ zz zz q=>q.1)
  rintro f s1 ⟨x,htk⟩
  cases f with
  | next=>
   obtain⟨lc1,h1,tk1,ι1,σ1,rfl,S1,I1,L1,e1⟩:=x
   refine wpAny_mono (H2 sc rest lc1 k env N F ι1 σ1 { s with heap:=h1,toks:=tk1 } r σ' (Nat.lt_of_lt_of_le ht htk) I1 L1 e1) ?_ ?_
   ·intro f s' q;exact q.after S1
   ·intro f s' q;exact q.after S1
  | ret v=>exact wpAny_pure x
  | brk=>exact x.elim
  | cont=>exact x.elim
theorem En.loc0 {sc:Scope} (N:En env sc fr) (F:Fn G env fr):∃ q0,fr=env.locals :: q0∧env.frame=some env.locals:=by
 refine Exists.elim (F.loc) λ q0 hq0=>?_
 refine ex22 (N.frame) λ L' r' h1 h2=>?_
 rw [hq0] at h1
 exact⟨q0,hq0,by rw [h2,(List.cons.inj h1).1]⟩
theorem noted_wp (H:At A fr d) {q0:List Addr} (hq0:fr=env.locals :: q0) (hfL:env.frame=some env.locals) {ι:Img} {σ:AH} {s:Shared} {r:Except AV AV} {σ':AH} (I:Inv G fr ι σ s.heap)
  {ι1:Img} {h1:Heap} {tk1:Nat} {v:Value} {s':Shared} (S1:Step (Wst env) fr ι ι1 s.heap h1) (x:FlowE G fr env r σ' ι1 { s with heap:=h1,toks:=tk1 } v s'):
  notedBy (model G.prog G.w) A env (λ e s'=>cameBackBy (model G.prog G.w) A env (FlowE G fr env r σ' ι s) e s') v s':=by
 obtain⟨p,hr,y⟩:=x.after (s:=s) S1
 clear x S1
 obtain⟨h',tk',ι',y,rfl,rfl,S',I',F'⟩:=y
 refine note_wp (s:={ s with heap:=h',toks:=tk' }) H hfL hq0 I S' I' F' λ h2 S2 I2 F2=>?_
 exact cameBack_wp (s:={ s with heap:=h2,toks:=tk' }) H I S2 I2 F2 λ h3 S3 I3 F3=>⟨p,hr,h3,tk',ι',y,rfl,rfl,S3,I3,F3.any⟩
theorem ItAt.notW {Ia:Addr} {lc':Lc} {ι':Img} {hh:Heap} {src':Src} {j:Nat} (L':Loc G env lc' ι' hh) (it':ItAt Ia ι' hh src' j):¬ Wst env Ia:=by
 intro w
 refine ex23 (it'.obj) λ o vs g1 g2 zz=>?_
 clear it'
 rcases w with w | ⟨y,hy⟩
 ·refine ex12 (L'.ns) λ m hm zz=>?_
  refine ex32 (ns_dict hm) λ o' es ep g3 g4=>?_
  rw [← w,g1] at g3;cases g3;rw [g2] at g4;cases g4
 ·obtain⟨v,⟨o',g3,g4⟩,_⟩:=L'.cells y _ hy
  rw [g1] at g3;cases g3;rw [g2] at g4;cases g4
theorem Loc.onIt {Ia:Addr} {lc:Lc} {ι':Img} {hh h':Heap} {src':Src} {j:Nat} (L:Loc G env lc ι' hh) (it:ItAt Ia ι' hh src' j) (kp:∀ b o,b≠Ia→hh.get? b=some o→h'.get? b=some o) (mv:∀ x v,RepV G ι' hh x v→RepV G ι' h' x v):Loc G env lc ι' h':=by
 have nw:=it.notW L
 refine ex12 (L.ns) λ mm hm hl=>?_
 refine⟨⟨mm,hm.at' λ o q=>kp _ o (λ q=>nw (.inl q.symm)) q,λ y a q kk=>let ⟨u,u1,u2⟩:=hl y a q kk;⟨u,u1,mv _ _ u2⟩⟩,λ y c q=>?_,L.has,L.own⟩
 obtain⟨v,⟨oc,v1,v2⟩,v3⟩:=L.cells y c q
 exact⟨v,⟨oc,kp c oc (λ z=>nw (.inr ⟨y,z▸q⟩)) v1,v2⟩,λ a qa kk=>let ⟨u,u1,u2⟩:=v3 a qa kk;⟨u,u1,mv _ _ u2⟩⟩
inductive WhJ (G:Gd) (fr:List Addr) (env:Env) (ι:Img) (s:Shared) (f:Nat→Lc→PM AV) (r:Except AV AV) (σ':AH) (m:Nat) (s':Shared):Prop
 | mk (lc':Lc) (h':Heap) (tk:Nat) (ι':Img) (σ1:AH) (es:s' = { s with heap:=h',toks:=tk }) (ht:0 < tk) (S:Step (Wst env) fr ι ι' s.heap h') (I:Inv G fr ι' σ1 h') (L:Loc G env lc' ι' h') (e:f m lc' σ1=some (r,σ'))
theorem while_ok (K:Gok G) (H:At A fr d) {X:Cx} (C:CallOk G A fr X) {n:Nat} (H2:SsOk G A fr X n) {sc:Scope} {lc:Lc} {k:Lc→PM AV} (N:En env sc fr) (F:Fn G env fr) {ι:Img} {σ:AH} {s:Shared} {r:Except AV AV} {σ':AH} {t:Expr} {b:List Stmt} {pos:Pos} {fuel:Nat} (ht:0 < s.toks) (I:Inv G fr ι σ s.heap) (L:Loc G env lc ι s.heap)
  (e:loopN (λ lc=>evT X n sc lc t) (λ lc kk=>exSs X n sc b lc kk) k fuel lc σ=some (r,σ')):wpAny (model G.prog G.w) A (exec (.While t b [] pos) env) (FlowQ G fr env k r σ' ι s) (FlowE G fr env r σ' ι s) s:=by
 refine ex12 (N.loc0 F) λ q0 hq0 hfL=>?_
 refine wpAny_While ?_
 have noted:∀ {ι1:Img} {h1:Heap} {tk1:Nat} {v:Value} {s':Shared},Step (Wst env) fr ι ι1 s.heap h1→FlowE G fr env r σ' ι1 { s with heap:=h1,toks:=tk1 } v s' →
   notedBy (model G.prog G.w) A env (λ e s'=>cameBackBy (model G.prog G.w) A env (FlowE G fr env r σ' ι s) e s') v s':=λ S x=>noted_wp H hq0 hfL I S x
 refine codeAny_whileLoop (WhJ G fr env ι s (loopN (λ lc=>evT X n sc lc t) (λ lc kk=>exSs X n sc b lc kk) k) r σ') ?_ fuel
  ⟨lc,s.heap,s.toks,ι,σ,rfl,ht,.refl,I,L,e⟩
 rintro m s' ⟨lc1,h1,tk1,ι1,σ1,rfl,ht1,S1,I1,L1,e1⟩
 cases m with
 | zero=>cases e1
 | succ m=>
 have T:=(ev_snd K H C n sc lc1 t env N).2
 refine Snd.step T (s:={ s with heap:=h1,toks:=tk1 }) ht1 I1 L1 e1 (λ zz zz q=>let ⟨_,z,o⟩:=q;noted S1 ⟨_,z,o.toW⟩) λ c c' h2 tk2 ι2 σ2 ht2 S2 I2 hc q2=>?_
 have hc':c'=c:=hc
 subst hc'
 clear pos L I ht C H K T hfL hc e e1 hq0 q0 fuel σ lc
 have S12:=S1.trans (nowW S2)
 have L2:=Pers.loc _ _ _ _ _ I1 S2 L1
 cases c' with
 | true=>
  rw [if_pos rfl]
  refine wpAny_mono (wpAny_toks (H2 sc b lc1 _ env N F ι2 σ2 { s with heap:=h2,toks:=tk2 } r σ' ht2 I2 L2 q2)) ?_ λ zz zz q=>noted S12 q.1
  rintro f s3 ⟨x,htk3⟩
  cases f with
  | next=>
   obtain⟨lc3,h3,tk3,ι3,σ3,rfl,S3,I3,L3,e3⟩:=x
   exact⟨m,Nat.lt_succ_self m,lc3,h3,tk3,ι3,σ3,rfl,Nat.lt_of_lt_of_le ht2 htk3,S12.trans S3,I3,L3,e3⟩
  | ret v=>exact FlowR.after S12 x
  | brk=>exact x.elim
  | cont=>exact x.elim
 | false=>
  rw [if_neg (by decide),execs_nil]
  exact wpAny_pure ⟨lc1,h2,tk2,ι2,σ2,rfl,S12,I2,L2,q2⟩
inductive ForJ (G:Gd) (fr:List Addr) (env:Env) (ι:Img) (s:Shared) (f:Nat→Nat→Lc→PM AV) (src:Src) (Ia:Addr) (r:Except AV AV) (σ':AH) (m:Nat) (s':Shared):Prop
 | mk (lc':Lc) (h':Heap) (tk:Nat) (ι':Img) (σ1:AH) (j:Nat) (es:s' = { s with heap:=h',toks:=tk }) (ht:0 < tk) (S:Step (Wst env) fr ι ι' s.heap h') (I:Inv G fr ι' σ1 h') (L:Loc G env lc' ι' h') (it:ItAt Ia ι' h' src j) (e:f m j lc' σ1=some (r,σ'))
theorem for_ok (K:Gok G) (H:At A fr d) {X:Cx} (C:CallOk G A fr X) {n:Nat} (H2:SsOk G A fr X n) {sc:Scope} {lc:Lc} {k:Lc→PM AV} (N:En env sc fr) (F:Fn G env fr) {ι:Img} {σ:AH} {s:Shared} {r:Except AV AV} {σ':AH} {x:Str} {px:Pos} {it:Expr} {b:List Stmt} {pos:Pos} {fuel:Nat} (hit:notSet it=true) (hx:sc.names.lookup x=some .local) (ht:0 < s.toks) (I:Inv G fr ι σ s.heap) (L:Loc G env lc ι s.heap)
  (e:(do let v ← evE X n sc lc it;let src ← srcOf v;forN (λ v lc kk=>exSs X n sc b (kvSet lc x v) kk) k src fuel 0 lc:PM AV) σ=some (r,σ')):wpAny (model G.prog G.w) A (exec (.For (.Name x px) it b [] pos) env) (FlowQ G fr env k r σ' ι s) (FlowE G fr env r σ' ι s) s:=by
 let QQ:=FlowQ G fr env k r σ' ι s
 let EE:=FlowE G fr env r σ' ι s
 show wpAny (model G.prog G.w) A (exec (.For (.Name x px) it b [] pos) env) QQ EE s
 refine ex12 (N.loc0 F) λ q0 hq0 hfL=>?_
 have noted:∀ {ι1:Img} {h1:Heap} {tk1:Nat} {v:Value} {s':Shared},Step (Wst env) fr ι ι1 s.heap h1→FlowE G fr env r σ' ι1 { s with heap:=h1,toks:=tk1 } v s' →
   notedBy (model G.prog G.w) A env (λ e s'=>cameBackBy (model G.prog G.w) A env (FlowE G fr env r σ' ι s) e s') v s':=λ S x=>noted_wp H hq0 hfL I S x
 have T:=(ev_snd K H C n sc lc it env N).1
 refine wpAny_For ?_ (folded_of hit env)
 refine Snd.step T ht I L e (λ zz zz q=>let ⟨_,z,o⟩:=q;⟨_,z,o.toW⟩) λ iv u h1 tk1 ι1 σ1 ht1 S1 I1 hu q2=>?_
 rcases andThen_cases q2 with ⟨p,q3,rfl⟩ | ⟨src,σ2,q3,q4⟩
 ·exact (srcOf_ok q3).elim
 refine iter_start (s:={ s with heap:=h1,toks:=tk1 }) I1 hu q3 λ Ia h2 hσ kp nI it2=>?_
 clear pos hit C K T hfL q2 hu q3 hq0 q0 iv
 subst hσ
 obtain⟨I2,S2⟩:=I1.keeps H.ne (.of kp)
 have S12:=S1.trans S2
 have L2:=Pers.loc _ _ _ _ _ I S12 L
 have nIa:=S1.gone nI
 refine ex24 (it2.obj) λ oI vsI hI1 hI2 hI3 hI4=>?_
 have hoI:=(I2.fieldsFree hI1 hI2).1
 have hIf:=(I2.fieldsFree hI1 hI2).2
 refine codeAny_forLoop (ForJ G fr env ι s (forN (λ v lc kk=>exSs X n sc b (kvSet lc x v) kk) k src) src Ia r σ') ?_ fuel
  ⟨lc,h2,tk1,ι1,_,0,rfl,ht1,nowW S12,I2,L2,it2,q4⟩
 intro m s' JJ
 refine hide λ GG hG=>?_
 obtain⟨lc3,h3,tk3,ι3,σ3,j,rfl,ht3,S3,I3,L3,it3,e3⟩:=JJ
 cases m with
 | zero=>cases e3
 | succ m=>
 unfold forN at e3
 cases hnx:nextA σ3 src j with
 | none=>rw [hnx] at e3;cases e3
 | some nx=>
 rw [hnx] at e3
 refine ex24 (it3.obj) λ o3 vs3 g1 g2 g3 g4=>?_
 have hoI3:=(I3.fieldsFree g1 g2).1
 refine hG ?_
 refine iter_next (s:={ s with heap:=h3,toks:=tk3 }) H I3 it3 hnx ?_ ?_
 ·rintro rfl h' kp'
  refine ex04 (one_away H.ne I S3 I3 nIa hoI3 it3.mild kp') λ Z1 Z2 Z3 Z4=>?_
  refine rwg (execs_nil ..) ?_
  exact wpAny_pure ⟨lc3,h',tk3,ι3,σ3,rfl,Z2,Z1,L3.onIt it3 kp' Z3,e3⟩
 ·rintro v rfl h' tk' u hle hu' it' kp'
  refine ex04 (one_away H.ne I S3 I3 nIa hoI3 it3.mild kp') λ Z1 Z2 Z3 Z4=>?_
  have L':=L3.onIt it3 kp' Z3
  have iA:Ia ∉ fr:=by
   intro q
   refine ex32 (I.frame q) λ o zz zz e0 zz=>?_
   rw [nIa] at e0;cases e0
  refine wpAny_mono (wpAny_toks (wpAny_assign_Name (store_local (s:={ s with heap:=h',toks:=tk' }) H F N (N.loc x hx) Z1 L' (Z3 _ _ hu') (Q:=λ zz s'=>∃ h4 tk4,s' = { s with heap:=h4,toks:=tk4 }∧Step (Wst env) fr ι3 ι3 h' h4∧Inv G fr ι3 σ3 h4∧Loc G env (kvSet lc3 x v) ι3 h4) (E:=λ zz zz=>False) λ h4 tk4 S4 I4 L4=>⟨h4,tk4,rfl,S4,I4,L4⟩))) ?_ (λ zz zz q=>q.1.elim)
  rintro _ s4 ⟨⟨h4,tk4,rfl,S4,I4,L4⟩,htk4⟩
  have ht4:0 < tk4:=Nat.lt_of_lt_of_le (Nat.lt_of_lt_of_le ht3 hle) htk4
  have S34:=Z2.trans S4
  refine ex23 (it'.obj) λ o' vs' j1 j2 zz=>?_
  have hoI':=(Z1.fieldsFree j1 j2).1
  have it4:ItAt Ia ι3 h4 src (j + 1):=it'.keep (λ zz zz e=>e) λ o q=>S4.keep _ _ q hoI' iA (it'.notW L')
  refine wpAny_mono (wpAny_toks (H2 sc b (kvSet lc3 x v) _ env N F ι3 σ3 { s with heap:=h4,toks:=tk4 } r σ' ht4 I4 L4 e3)) ?_ λ zz zz q=>noted S34 q.1
  rintro f s5 ⟨y,htk5⟩
  cases f with
  | next=>
   obtain⟨lc5,h5,tk5,ι5,σ5,rfl,S5,I5,L5,e5⟩:=y
   refine⟨m,Nat.lt_succ_self m,lc5,h5,tk5,ι5,σ5,j + 1,rfl,Nat.lt_of_lt_of_le ht4 htk5,S34.trans S5,I5,L5,it4.keep (λ zz zz e=>S5.img e) (λ o q=>S5.keep _ _ q ?_ iA (it4.notW L4)),e5⟩
   exact (I4.fieldsFree (S4.keep _ _ j1 hoI' iA (it'.notW L')) j2).1
  | ret v=>exact FlowR.after S34 y
  | brk=>exact y.elim
  | cont=>exact y.elim
end
section
variable {G:Gd} {A:Around} {fr:List Addr} {d:Nat} {env:Env} {β:Type}
theorem Loc.away {lc:Lc} {ι:Img} {h h':Heap} {a:Addr} (L:Loc G env lc ι h) (ha:¬ Wst env a) (kp:∀ b o,b≠a→h.get? b=some o→h'.get? b=some o) (mv:∀ x v,RepV G ι h x v→RepV G ι h' x v):Loc G env lc ι h':=by
 refine ex12 (L.ns) λ mm hm hl=>?_
 have nl:env.locals≠a:=λ q=>ha (.inl q.symm)
 refine⟨⟨mm,hm.at' λ o q=>kp _ o nl q,λ y a q kk=>let ⟨u,u1,u2⟩:=hl y a q kk;⟨u,u1,mv _ _ u2⟩⟩,λ y c q=>?_,L.has,L.own⟩
 obtain⟨v,⟨oc,v1,v2⟩,v3⟩:=L.cells y c q
 exact⟨v,⟨oc,kp c oc (λ z=>ha (.inr ⟨y,z▸q⟩)) v1,v2⟩,λ a qa kk=>let ⟨u,u1,u2⟩:=v3 a qa kk;⟨u,u1,mv _ _ u2⟩⟩
theorem Loc.notW {lc:Lc} {ι:Img} {h:Heap} {a:Addr} (L:Loc G env lc ι h) (ha:h.get? a=none):¬ Wst env a:=by
 rintro (w | ⟨y,hy⟩)
 ·refine ex12 (L.ns) λ m hm zz=>?_
  refine ex32 (ns_dict hm) λ o' es ep g3 g4=>?_
  rw [← w,ha] at g3;cases g3
 ·obtain⟨v,⟨o',g3,g4⟩,_⟩:=L.cells y _ hy
  rw [ha] at g3;cases g3
theorem tgt_cases {X:Cx} {n:Nat} {sc:Scope} {lc:Lc} {a:AV} {P:Expr→Prop} (hf:∀ {t},assignA X n sc lc a t=PM.fail→P t)
  (h1:∀ {t},(∀ v env,swappedStores [t] v env=pure none)→(∀ env,(assignEach [t] env).map (·.2)=[assign t env])→P t) (h2:∀ t1 t2 k p,P (.Tuple [t1,t2] k p)):∀ t,P t:=by
 intro t
 cases t with
 | Name=>exact h1 (λ zz zz=>rfl) λ zz=>rfl
 | Attribute=>exact h1 (λ zz zz=>rfl) λ zz=>rfl
 | Subscript=>exact h1 (λ zz zz=>rfl) λ zz=>rfl
 | Tuple ts q p=>
  exact list2 ts (hf rfl) (λ zz=>hf rfl) (λ zz zz=>h2 ..) λ zz zz zz zz=>hf rfl
 | _=>exact hf rfl
theorem assignOne_name {X:Cx} {n:Nat} {sc:Scope} {y:Str} {py:Pos} {lcx:Lc} {w:AV} {σx:AH} {res:Except AV Lc×AH} (he:assignOne X n sc lcx w (.Name y py) σx=some res):res=(.ok (kvSet lcx y w),σx):=by
 replace he:(match sc.names.lookup y with | some .local=>pure (kvSet lcx y w) | some .cell=>pure (kvSet lcx y w) | _=>PM.fail:PM Lc) σx=some res:=he
 cases hx:sc.names.lookup y with
 | none=>rw [hx] at he;cases he
 | some kd=>
  rw [hx] at he
  cases kd<;>first | (cases he;rfl) | cases he
theorem two_stores {X:Cx} {n:Nat} {sc:Scope} {lc:Lc} {a:AV} {n1 n2:Str} {p1 p2 p:Pos} {q:Nat} {k:Lc→PM AV} {σ σ':AH} {r:Except AV AV} (e:(assignA X n sc lc a (.Tuple [.Name n1 p1,.Name n2 p2] q p)>>=k) σ=some (r,σ')):
  ∃ v1 v2,a = .tup [v1,v2]∧k (kvSet (kvSet lc n1 v1) n2 v2) σ=some (r,σ'):=by
 cases a with
 | tup l=>
  revert e
  refine list2 l (λ e=>no_none e) (λ zz e=>no_none e) (λ v1 v2 e=>?_) λ zz zz zz zz e=>no_none e
  ·have e':((assignOne X n sc lc v1 (.Name n1 p1)>>=λ lc1=>assignOne X n sc lc1 v2 (.Name n2 p2))>>=k) σ=some (r,σ'):=e
   rcases andThen_cases e' with ⟨pp,g1,_⟩ | ⟨lc1,σ1,g1,g2⟩
   ·rcases andThen_cases g1 with ⟨_,g3,_⟩ | ⟨lc3,σ3,g3,g4⟩
    ·cases assignOne_name g3
    ·cases assignOne_name g4
   ·rcases andThen_cases g1 with ⟨_,_,z⟩ | ⟨lc3,σ3,g3,g4⟩
    ·cases z
    ·clear e e' g1 q p
     cases assignOne_name g3
     cases assignOne_name g4
     exact⟨v1,v2,rfl,g2⟩
 | _=>cases e
theorem stores_ok (K:Gok G) (H:At A fr d) {X:Cx} (C:CallOk G A fr X) {n:Nat} {sc:Scope} {lc:Lc} {k:Lc→PM AV} (N:En env sc fr) (F:Fn G env fr) {ι:Img} {σ:AH} {s:Shared} {r:Except AV AV} {σ':AH} {t v:Expr} {a:AV} {u:Value}
  (hok:assignOk t v=true) (ht:0 < s.toks) (I:Inv G fr ι σ s.heap) (L:Loc G env lc ι s.heap) (hu:RepV G ι s.heap a u) (e:(do let lc' ← assignA X n sc lc a t;k lc':PM AV) σ=some (r,σ')):
  wpAny (model G.prog G.w) A (do let sw ← swappedStores [t] v env;assignStores env u sw ((assignEach [t] env).map (·.2))) (FlowQ G fr env k r σ' ι s) (FlowE G fr env r σ' ι s) s:=by
 have hpl:∀ ts q p,t = .Tuple ts q p→plainArgs ts=true:=by
  clear e hu L I ht F N C H K u a σ' r s σ ι k lc sc n X
  rintro ts q p rfl
  exact (Bool.and_eq_true_iff.mp hok).1
 have plain:∀ (e1:swappedStores [t] v env=pure none) (e2:(assignEach [t] env).map (·.2)=[assign t env]),wpAny (model G.prog G.w) A (do let sw ← swappedStores [t] v env;assignStores env u sw ((assignEach [t] env).map (·.2))) (FlowQ G fr env k r σ' ι s) (FlowE G fr env r σ' ι s) s:=by
  intro e1 e2
  refine rwg (e1 ..) ?_
  refine rwg (e2 ..) ?_
  refine wpAny_bind (wpAny_pure ?_)
  show wpAny _ A (assign t env u>>=λ zz=>pure Flow.next) _ _ _
  rcases andThen_cases e with ⟨p,q1,rfl⟩ | ⟨lc1,σ1,q1,q2⟩
  ·refine wpAny_bind (wpAny_mono (assign_snd K H C F N n ht I L hu hpl q1) ?_ ?_)
   ·rintro _ _ ⟨_,_,_,_,z,_⟩;cases z
   ·rintro e s' ⟨p',z,o⟩;cases z;exact⟨_,rfl,o⟩
  ·refine wpAny_bind (wpAny_mono (assign_snd K H C F N n ht I L hu hpl q1) ?_ ?_)
   ·rintro _ s1 ⟨lc2,h1,tk1,ι1,z,rfl,S1,I1,L1⟩
    cases z
    exact wpAny_pure ⟨lc1,h1,tk1,ι1,σ1,rfl,S1,I1,L1,q2⟩
   ·rintro e s' ⟨p',z,o⟩;cases z
 clear hpl
 revert plain hok e
 revert t
 refine no_implicit_lambda% (tgt_cases (X:=X) (n:=n) (sc:=sc) (lc:=lc) (a:=a) ?_ ?_ ?_)
 ·intro t z _ e _
  rw [z] at e;cases e
 ·exact λ z1 z2 zz zz h=>h (z1 _ _) (z2 _)
 intro t1 t2 q p hok e plain
 rcases swapped_of t1 t2 q p v env (Bool.and_eq_true_iff.mp hok).2 with e1 | ⟨n1,p1,n2,p2,rfl,rfl,hne,k1,k2,e1⟩
 ·exact plain e1 rfl
 clear plain hok ht K C
 refine ex22 (two_stores e) λ v1 v2 rr2 g2=>?_
 subst rr2
 refine rwg (e1 ..) ?_
 clear e e1
 refine wpAny_bind (wpAny_pure ?_)
 show wpAny _ A (rule "assign.swapped-stores">>=λ zz=>unpackItems u 2 none>>=λ items=>assignInOrder ([n1,n2].reverse.map λ n=>bindName env n) items.reverse>>=λ zz=>pure Flow.next) _ _ _
 refine wpAny_bind (wpAny_rule ?_)
 refine ex24 (hu) λ a0 vs rr2 htup hr zz=>?_
 clear v X hu n p2 p1 p
 subst rr2
 refine ex23 (reps2 hr) λ u1 u2 rr2 r1 r2=>?_
 subst rr2
 have hsz:(List.toArray [u1,u2]).size=2:=rfl
 refine rwb (hsz ..) ?_
 refine wpAny_bind (unpackItems_tuple (items:=List.toArray [u1,u2]) H.handled htup λ h' hs=>?_)
 have kp:∀ b o,s.heap.get? b=some o→h'.get? b=some o:=λ b o q=>hs b o (by rintro rfl;rw [get_size] at q;cases q) q
 have I1:=(I.keeps H.ne (.of kp)).1
 have S1:=(I.keeps H.ne (.of kp)).2
 have L1:=Pers.loc _ _ _ _ _ I S1 L
 show wpAny _ A ((holding [u1] (bindName env n2 u2)>>=λ zz=>holding [] (bindName env n1 u1)>>=λ zz=>assignInOrder [] [])>>=λ zz=>pure Flow.next) _ _ _
 refine wpAny_bind (wpAny_bind (wpAny_holding (wpAny_bindName (store_local (s:={ s with heap:=h' }) H F N k2 I1 L1 (RepV.step I S1 mildNo _ _ r2) λ h2 tk2 S2 I2 L2=>?_))))
 refine wpAny_bind (wpAny_holding (wpAny_bindName (store_local (s:={ s with heap:=h2,toks:=tk2 }) H F N k1 I2 L2 (RepV.wst L1 I1 S2 (RepV.step I S1 mildNo _ _ r1)) λ h3 tk3 S3 I3 L3=>?_)))
 refine wpAny_pure (wpAny_pure ?_)
 refine⟨_,h3,tk3,ι,_,rfl,((nowW S1).trans S2).trans S3,I3,L3.congr λ x=>?_,g2⟩
 simp only [kvGet_set]
 by_cases hx2:n2=x
 ·subst hx2;simp [hne]
 ·simp [hx2]
theorem notComp_swaps {v:Expr} (h:notComp v=true) (t:Option Expr) (l:Nat) (env:Env):swapsWith v t l env=pure false:=by
 cases v<;>first | rfl | cases h
theorem sole_cases {X:Cx} {sc:Scope} {lc:Lc} {l:Nat} {P:Expr→Expr→Prop} (h1:∀ {t v},swapsWithSole [t] v l env=pure false→P t v) (h2:∀ y py elt gens sc' pv,P (.Name y py) (.ListComp elt gens sc' pv))
  (h3:∀ {t v},(∀ m,evE X m sc lc v=PM.fail)→P t v):∀ t v,P t v:=by
 intro t v
 by_cases hc:notComp v=true
 ·exact h1 (notComp_swaps hc _ _ _)
 cases v with
 | SetComp=>exact h3 λ m=>by cases m<;>rfl
 | DictComp=>exact h3 λ m=>by cases m<;>rfl
 | ListComp elt gens sc' pv=>
  cases t with
  | Name y py=>exact h2 ..
  | _=>exact h1 rfl
 | _=>exact absurd rfl hc
theorem gens_cases {X:Cx} {sc:Scope} {lc:Lc} {elt:Expr} {sc':Scope} {pv:Pos} {P:List Comprehension→Prop} (h:∀ x px iter ifs,P [⟨.Name x px,iter,ifs,0⟩])
  (hf:∀ {gens},(∀ m,evE X m sc lc (.ListComp elt gens sc' pv)=PM.fail)→P gens):∀ gens,P gens:=by
 intro gens
 cases gens with
 | nil=>exact hf λ m=>by cases m<;>rfl
 | cons g gs=>
 obtain⟨tg,iter,ifs,as⟩:=g
 cases tg with
 | Name x px=>
  cases as with
  | negSucc=>exact hf λ m=>by cases m<;>rfl
  | ofNat w=>
   cases w with
   | succ=>exact hf λ m=>by cases m<;>rfl
   | zero=>
    cases gs with
    | nil=>exact h ..
    | cons=>exact hf λ m=>by cases m<;>rfl
 | _=>exact hf λ m=>by cases m<;>rfl
set_option tactic.hygienic true in
theorem comp_eq {X:Cx} {n:Nat} {sc sc':Scope} {lc:Lc} {elt iter:Expr} {ifs:List Expr} {x:Str} {px pv:Pos} {κ:AV→PM AV} {σ σ':AH} {r:Except AV AV}
  (e:(evE X (n + 1) sc lc (.ListComp elt [⟨.Name x px,iter,ifs,0⟩] sc' pv)>>=κ) σ=some (r,σ')):∃ _:compOk x sc'=true∧(kvGet lc (nm ".0")).isNone=true∧notSet iter=true∧freesOk sc sc'=true,∃ r0 σ0,(do let it ← evE X n sc lc iter;let src ← srcOf it;let vs ← goN (compBody ifs (λ v t=>evT X n sc' (kvSet lc x v) t) (λ v=>evE X n sc' (kvSet lc x v) elt)) src X.fuel 0;newL vs:PM AV) σ=some (r0,σ0) ∧
   (match r0 with | .error p=>r = .error p∧σ'=σ0 | .ok a=>κ a σ0=some (r,σ')):=by
 rcases andThen_cases e with ⟨p,q1,rfl⟩ | ⟨a,σ1,q1,q2⟩
 all_goals
  have q1:(if compOk x sc'=true∧(kvGet lc (nm ".0")).isNone=true∧notSet iter=true∧freesOk sc sc'=true then (do let it ← evE X n sc lc iter;let src ← srcOf it;let vs ← goN (compBody ifs (λ v t=>evT X n sc' (kvSet lc x v) t) (λ v=>evE X n sc' (kvSet lc x v) elt)) src X.fuel 0;newL vs:PM AV) else PM.fail) σ=_:=q1
  split at q1
  case isFalse=>cases q1
  rename_i hc
 ·exact⟨hc,_,_,q1,rfl,rfl⟩
 ·exact⟨hc,_,_,q1,q2⟩
theorem assign_plain (K:Gok G) (H:At A fr d) {X:Cx} (C:CallOk G A fr X) {n:Nat} {sc:Scope} {lc:Lc} {k:Lc→PM AV} (N:En env sc fr) (F:Fn G env fr) {ι:Img} {σ:AH} {s:Shared} {r:Except AV AV} {σ':AH} {t v:Expr} {pos:Pos}
  (hs:swapsWithSole [t] v pos.line env=pure false) (hok:assignOk t v=true) (ht:0 < s.toks) (I:Inv G fr ι σ s.heap) (L:Loc G env lc ι s.heap) (e:(do let x ← evE X n sc lc v;let lc' ← assignA X n sc lc x t;k lc':PM AV) σ=some (r,σ')):
  wpAny (model G.prog G.w) A (do
   if ← swapsWithSole [t] v pos.line env then do
    evalThenUse v env λ v=>assignAll v ((assignEach [t] env).map (·.2))
    pure .next
   else do
    let v' ← eval v env
    assignStores env v' (← swappedStores [t] v env) ((assignEach [t] env).map (·.2))) (FlowQ G fr env k r σ' ι s) (FlowE G fr env r σ' ι s) s:=by
 refine rwg (hs ..) ?_
 refine wpAny_bind (wpAny_pure ?_)
 rw [if_neg (by decide)]
 have T:=(ev_snd K H C n sc lc v env N).1
 refine wpAny_bind (Snd.step T ht I L e (λ zz zz q=>let ⟨_,z,o⟩:=q;⟨_,z,o.toW⟩) λ x u h1 tk1 ι1 σ1 ht1 S1 I1 hu q2=>?_)
 have L1:=Pers.loc _ _ _ _ _ I S1 L
 exact wpAny_mono (stores_ok K H C N F (s:={ s with heap:=h1,toks:=tk1 }) hok ht1 I1 L1 hu q2) (λ f s' q=>q.after (nowW S1)) λ f s' q=>q.after (nowW S1)
theorem assign_comp (K:Gok G) (H:At A fr d) {X:Cx} (C:CallOk G A fr X) {n:Nat} {sc:Scope} {lc:Lc} {k:Lc→PM AV} (N:En env sc fr) (F:Fn G env fr) {ι:Img} {σ:AH} {s:Shared} {r:Except AV AV} {σ':AH} {y:Str} {py:Pos} {elt:Expr} (gens:List Comprehension) {sc':Scope} {pv pos:Pos}
  (hb:(env.blockKind == .function && env.kindOf y == some .local && py.line == (Expr.ListComp elt gens sc' pv).pos.line && !(sc'.names.any λ (n,k)=>n == y && (k == .local || k == .cell)))=true) (ht:0 < s.toks) (I:Inv G fr ι σ s.heap) (L:Loc G env lc ι s.heap) (e:(do let x ← evE X n sc lc (.ListComp elt gens sc' pv);let lc' ← assignA X n sc lc x (.Name y py);k lc':PM AV) σ=some (r,σ')):
  wpAny (model G.prog G.w) A (do
   if ← swapsWithSole [.Name y py] (.ListComp elt gens sc' pv) pos.line env then do
    evalThenUse (.ListComp elt gens sc' pv) env λ v=>assignAll v ((assignEach [.Name y py] env).map (·.2))
    pure .next
   else do
    let v' ← eval (.ListComp elt gens sc' pv) env
    assignStores env v' (← swappedStores [.Name y py] (.ListComp elt gens sc' pv) env) ((assignEach [.Name y py] env).map (·.2))) (FlowQ G fr env k r σ' ι s) (FlowE G fr env r σ' ι s) s:=by
 rw [show swapsWithSole [.Name y py] (.ListComp elt gens sc' pv) pos.line env=pure true from congrArg pure hb]
 refine wpAny_bind (wpAny_pure ?_)
 rw [if_pos rfl]
 have hy:env.kindOf y=some .local:=by
  simp only [Bool.and_eq_true,beq_iff_eq] at hb
  exact hb.1.1.2
 clear hb
 cases n with
 | zero=>cases e
 | succ n=>
 revert gens
 refine gens_cases (X:=X) (sc:=sc) (lc:=lc) (elt:=elt) (sc':=sc') (pv:=pv) ?_ (λ hw e=>by rw [hw] at e;cases e)
 intro x px iter ifs e
 obtain⟨⟨c1,c2,c3,c4⟩,r0,σ0,q1,q2⟩:=comp_eq e
 have ih:=λ sc lc e env N=>ev_snd K H C n sc lc e env N
 have hfree:∀ y,sc'.names.lookup y=some .free→env.kindOf y=some .cell∨env.kindOf y=some .free:=λ y hy=>by
  unfold freesOk at c4
  rw [List.all_eq_true] at c4
  have:=c4 _ (lookup_mem hy)
  simp only [Bool.or_eq_true,decide_eq_true_eq] at this
  rcases this with (q | q) | q
  ·exact absurd rfl q
  ·exact .inl (N.cel y q)
  ·exact (N.fre y q).symm
 show wpAny _ A ((comprehension (.ListComp elt [⟨.Name x px,iter,ifs,0⟩] sc' pv) sc' env _ (newList []) false (eval iter env) (some λ v=>assignAll v [assign (.Name y py) env])>>=λ zz=>pure ())>>=λ zz=>pure Flow.next) _ _ _
 refine wpAny_bind (wpAny_bind (wpAny_mono (comp_wp (Q:=λ zz s'=>FlowN G fr env k r σ' ι s s') (E:=FlowE G fr env r σ' ι s) H N c1 c2 c3 (ih sc lc iter env N).1 (λ cl Cx v t zz N'=>(ih sc' _ t _ N').2) (λ cl Cx v N'=>(ih sc' _ elt _ N').1) hfree ht I L q1 ?_ ?_) (λ zz s' q=>wpAny_pure (wpAny_pure q)) λ zz zz q=>q))
 ·clear pos L I ht F C H K N hfree ih hy q1 c4 c3 c2 c1
  rintro p e s' rfl he
  obtain⟨rfl,rfl⟩:=q2
  exact⟨p,rfl,he.toW⟩
 ·clear pos ht C K hfree ih e px q1 c4 c3 c2 c1 pv sc' elt ifs iter x
  rintro D Ca ι1 h1 tk m nD nC hDC S1 I1 ⟨i,rfl,hi⟩ hns hoC
  show wpAny _ A (assign (.Name y py) env (.ref D)) _ _ _
  have L1:=Pers.loc _ _ _ _ _ I S1 L
  have wC:¬ Wst env Ca:=L.notW nC
  have fC:Ca ∉ fr:=λ q=>by
   obtain⟨o,_,_,e0,_⟩:=I.frame q
   rw [nC] at e0;cases e0
  refine wpAny_assign_Name (store_local (s:={ s with heap:=h1,toks:=tk }) (a:=.obj i) H F N hy I1 L1 (⟨_,hi,rfl⟩) λ h2 tk2 S2 I2 L2=>?_)
  have hns2:h2.Ns Ca m:=hns.at' λ o q=>S2.keep _ _ q hoC fC wC
  refine⟨m,hns2,λ h3 hs3=>?_⟩
  have kp3:∀ b o,b≠Ca→h2.get? b=some o→h3.get? b=some o:=λ b o nb q=>(hs3.2 b nb).trans q
  refine ex04 (one_away H.ne I ((nowW S1).trans S2) I2 nC hoC (nsMild hns2) kp3) λ Z1 Z2 Z3 Z4=>?_
  refine⟨kvSet lc y (.obj i),h3,tk2,ι1,σ0,rfl,Z2,Z1,L2.away wC kp3 Z3,?_⟩
  rcases andThen_cases (q2) with ⟨p,g1,rfl⟩ | ⟨lc3,σ3,g1,g2⟩
  ·exfalso
   have g1':assignOne X (n + 1) sc lc (.obj i) (.Name y py) σ0=some (.error p,σ'):=g1
   unfold assignOne at g1'
   dsimp only at g1'
   cases hx:sc.names.lookup y with
   | none=>rw [hx] at g1';cases g1'
   | some kd=>rw [hx] at g1';cases kd<;>cases g1'
  ·have g1':assignOne X (n + 1) sc lc (.obj i) (.Name y py) σ0=some (.ok lc3,σ3):=g1
   unfold assignOne at g1'
   dsimp only at g1'
   cases hx:sc.names.lookup y with
   | none=>rw [hx] at g1';cases g1'
   | some kd=>rw [hx] at g1';cases kd<;>first | (cases g1';exact g2) | cases g1'
theorem assign_ok (K:Gok G) (H:At A fr d) {X:Cx} (C:CallOk G A fr X) {n:Nat} {sc:Scope} {lc:Lc} {k:Lc→PM AV} (N:En env sc fr) (F:Fn G env fr) {ι:Img} {σ:AH} {s:Shared} {r:Except AV AV} {σ':AH} (t v:Expr) {pos:Pos}
  (hok:assignOk t v=true) (ht:0 < s.toks) (I:Inv G fr ι σ s.heap) (L:Loc G env lc ι s.heap) (e:(do let x ← evE X n sc lc v;let lc' ← assignA X n sc lc x t;k lc':PM AV) σ=some (r,σ')):
  wpAny (model G.prog G.w) A (exec (.Assign [t] v pos) env) (FlowQ G fr env k r σ' ι s) (FlowE G fr env r σ' ι s) s:=by
 refine rwg (exec_Assign_arm ..) ?_
 refine wpAny_bind (wpAny_standAt ?_)
 revert t v
 refine sole_cases (X:=X) (sc:=sc) (lc:=lc) (l:=pos.line) (env:=env) ?_ ?_ ?_
 ·intro t v hs hok e
  exact assign_plain K H C N F hs hok ht I L e
 ·intro y py elt gens sc' pv hok e
  cases hb:(env.blockKind == .function && env.kindOf y == some .local && py.line == (Expr.ListComp elt gens sc' pv).pos.line && !(sc'.names.any λ (n,k)=>n == y && (k == .local || k == .cell))) with
  | false=>exact assign_plain K H C N F (congrArg pure hb) hok ht I L e
  | true=>
   exact assign_comp K H C N F gens hb ht I L e
 ·intro t v hw _ e
  rw [hw] at e;cases e
end
section
variable {G:Gd} {A:Around} {fr:List Addr} {d:Nat} {env:Env} {β:Type}
theorem exec_if (t:Expr) (b o:List Stmt) (pos:Pos) (env:Env):exec (.If t b o pos) env=(do standAt pos;if ← PySem.isTrue t env (eval t env) then execs b env else execs o env):=rfl
theorem exS_try {X:Cx} {n:Nat} {sc:Scope} {lc:Lc} {k:Lc→PM AV} {pos:Pos} {P:List Stmt→List ExceptHandler→List Stmt→List Stmt→PM AV→Prop} (hf:∀ {bd hs oe fin},P bd hs oe fin PM.fail)
  (hP:∀ e0 p1 c p2 x y p3 f p4 p5 p6,P [.Expr e0 p1] [.ExceptHandler (some (.Name c p2)) (some x) [.Return (some (.Attribute (.Name y p3) f p4)) p5] p6] [] []
   (if (x=y∧f=nm "place"∧sc.names.lookup x=some .local∧sc.names.lookup c=some .globalImplicit∧notComp e0=true) then (match X.T.glob c with
    | some (.val C)=>if C=X.T.exc then tryA (evE X n sc lc e0) (k lc) else PM.fail
    | _=>PM.fail) else PM.fail)):∀ bd hs oe fin,P bd hs oe fin (exS X (n + 1) sc (.Try bd hs oe fin pos) lc k):=by
 intro bd hs oe fin
 cases bd with
 | nil=>exact hf
 | cons s0 bd=>cases s0 with
  | Expr e0 p1=>cases bd with
   | cons=>exact hf
   | nil=>cases hs with
    | nil=>exact hf
    | cons h0 hs=>
     obtain⟨ty,nmo,hb,p6⟩:=h0
     cases ty with
     | none=>exact hf
     | some ty=>cases ty with
      | Name c p2=>cases nmo with
       | none=>exact hf
       | some x=>cases hb with
        | nil=>exact hf
        | cons r0 hb=>cases r0 with
         | Return ro p5=>cases ro with
          | none=>exact hf
          | some ro=>cases ro with
           | Attribute ao f p4=>cases ao with
            | Name y p3=>cases hb with
             | cons=>exact hf
             | nil=>cases hs with
              | cons=>exact hf
              | nil=>cases oe with
               | cons=>exact hf
               | nil=>cases fin with
                | cons=>exact hf
                | nil=>exact hP ..
            | _=>exact hf
           | _=>exact hf
         | _=>exact hf
      | _=>exact hf
  | _=>cases bd<;>exact hf
set_option tactic.hygienic true in
theorem st_step (K:Gok G) (H:At A fr d) {X:Cx} (C:CallOk G A fr X) (HR:RaOk G A fr X) (HT:TrOk G A fr X) {n:Nat} (H2:SsOk G A fr X n):StOk G A fr X (n + 1):=by
 intro sc st lc k env N F ι σ s r σ' ht I L e
 have one:∀ e,Snd G A fr (Loc G env lc) (eval e env) (evE X n sc lc e) (RV G):=λ e=>(ev_snd K H C n sc lc e env N).1
 have bad:∀ {P:Prop},(none:Option (Except AV AV×AH))=some (r,σ')→P:=λ q=>(nomatch q)
 cases st with
 | Expr v pos=>
  have e:(if notComp v=true then (evE X n sc lc v>>=λ zz=>k lc) else PM.fail) σ=some (r,σ'):=e
  obtain⟨hc,e⟩:=of_guard e
  have hi:interactive env=false:=by unfold interactive;rw [N.kind];rfl
  rw [exec_Expr env v pos hi (notComp_swaps hc none pos.line env)]
  refine wpAny_bind (wpAny_standAt ?_)
  exact wpAny_bind (Snd.step (one v) ht I L e (λ zz zz q=>let ⟨_,z,o⟩:=q;⟨_,z,o.toW⟩) λ x u h1 tk1 ι1 σ1 zz S1 I1 zz q2=>wpAny_dropValue ⟨lc,h1,tk1,ι1,σ1,rfl,nowW S1,I1,Pers.loc _ _ _ _ _ I S1 L,q2⟩)
 | Pass pos=>
  rw [exec_Pass]
  exact wpAny_bind (wpAny_standAt (wpAny_pure ⟨lc,s.heap,s.toks,ι,σ,rfl,.refl,I,L,e⟩))
 | Return o pos=>
  cases o with
  | some v=>
   refine wpAny_Return_some (wpAny_mono (one v ι σ s _ _ ht I L e) ?_ ?_)
   ·rintro u s1 ⟨b',hr,o⟩;exact⟨b',hr,o.toW⟩
   ·rintro e s' ⟨p',hr,o⟩;exact⟨p',hr,o.toW⟩
  | none=>
   cases e
   exact wpAny_Return_none ⟨_,rfl,s.heap,s.toks,ι,rfl,.refl,I,rfl⟩
 | Assign ts v pos=>
  cases ts with
  | nil=>exact bad e
  | cons t ts=>
   cases ts with
   | cons zz zy=>exact bad e
   | nil=>
    have e:(if assignOk t v=true then (evE X n sc lc v>>=λ x=>assignK X n sc lc x t k) else PM.fail) σ=some (r,σ'):=e
    obtain⟨hok,e⟩:=of_guard e
    exact assign_ok K H C N F t v hok ht I L ((congrArg (λ f:AV→PM AV=>(evE X n sc lc v>>=f) σ) (funext λ x=>assignK_eq X n sc lc x t k)).trans e)
 | If t b o pos=>
  rw [exec_if]
  refine wpAny_bind (wpAny_standAt ?_)
  have T:=(ev_snd K H C n sc lc t env N).2
  have e:(evT X n sc lc t>>=λ c=>match c with | true=>exSs X n sc b lc k | false=>exSs X n sc o lc k) σ=some (r,σ'):=e
  refine wpAny_bind (Snd.step T ht I L e (λ zz zz q=>let ⟨_,z,o⟩:=q;⟨_,z,o.toW⟩) λ c c' h1 tk1 ι1 σ1 ht1 S1 I1 hu q2=>?_)
  have hc':c'=c:=hu
  clear HT HR C H K T bad one hu e
  subst hc'
  have L1:=Pers.loc _ _ _ _ _ I S1 L
  cases c' with
  | true=>
   rw [if_pos rfl]
   exact wpAny_mono (H2 sc b lc k env N F ι1 σ1 { s with heap:=h1,toks:=tk1 } r σ' ht1 I1 L1 q2) (λ f s' q=>q.after (nowW S1)) λ f s' q=>q.after (nowW S1)
  | false=>
   rw [if_neg (by decide)]
   exact wpAny_mono (H2 sc o lc k env N F ι1 σ1 { s with heap:=h1,toks:=tk1 } r σ' ht1 I1 L1 q2) (λ f s' q=>q.after (nowW S1)) λ f s' q=>q.after (nowW S1)
 | While t b o pos=>
  cases o with
  | nil=>exact while_ok K H C H2 N F ht I L e
  | cons zz zy=>exact bad e
 | For t it b o pos=>
  cases t with
  | Name x px=>
   cases o with
   | cons zz zy=>exact bad e
   | nil=>
    have e:(if notSet it=true∧sc.names.lookup x=some .local then (evE X n sc lc it>>=λ v=>srcOf v>>=λ src=>forN (λ v lc kk=>exSs X n sc b (kvSet lc x v) kk) k src X.fuel 0 lc) else PM.fail) σ=some (r,σ'):=e
    obtain⟨hit,e⟩:=of_guard e
    exact for_ok K H C H2 N F hit.1 hit.2 ht I L e
  | _=>exact bad e
 | Raise o c pos=>
  cases o with
  | none=>exact bad e
  | some ee=>
   cases ee with
   | Call c0 args kw p1=>
    cases kw with
    | cons zz zy=>exact bad e
    | nil=>
     cases c with
     | some zz=>exact bad e
     | none=>
      have e:(if plainArgs args=true∧notAttr c0=true then (evE X n sc lc c0>>=λ cv=>seqA (args.map λ v=>evE X n sc lc v)>>=λ vs=>raiseA X.T cv vs) else PM.fail) σ=some (r,σ'):=e
      obtain⟨hc,e⟩:=of_guard e
      refine wpAny_mono (HR n sc lc env c0 args p1 pos N F ι σ s r σ' ht I L e hc.1 (λ o x ap q=>by rw [q] at hc;cases hc.2)) (λ zz zz q=>q.elim) λ zz zz q=>q
   | _=>exact bad e
 | Try bd hs oe fin pos=>
  refine exS_try (P:=λ bd hs oe fin m=>m σ=some (r,σ')→wpAny (model G.prog G.w) A (exec (.Try bd hs oe fin pos) env) (FlowQ G fr env k r σ' ι s) (FlowE G fr env r σ' ι s) s) (λ e=>no_none e) ?_ _ _ _ _ e
  intro e0 p1 c p2 x y p3 f p4 p5 p6 e1
  clear e
  split at e1
  case isFalse=>cases e1
  rename_i hc
  refine ex05 (hc) λ rr0 rr1 h1 h2 h3=>?_
  subst rr0
  subst rr1
  cases hg:X.T.glob c with
  | none=>rw [hg] at e1;cases e1
  | some g=>
   rw [hg] at e1
   cases g<;>try (exact bad e1)
   rename_i Ca
   dsimp only at e1
   split at e1
   case isFalse=>cases e1
   rename_i hC
   subst hC
   exact HT n sc lc k env e0 c x _ _ _ _ _ _ _ N F ι σ s r σ' ht I L h1 h2 hg h3 e1
 | _=>exact bad e
theorem st_all (K:Gok G) (H:At A fr d) {X:Cx} (C:CallOk G A fr X) (HR:RaOk G A fr X) (HT:TrOk G A fr X):∀ n,StOk G A fr X n∧SsOk G A fr X n
 | 0=>by
  constructor
  ·intro sc st lc k env N F ι σ s r σ' ht I L e;cases e
  ·intro sc st lc k env N F ι σ s r σ' ht I L e;cases e
 | n + 1=>let ih:=st_all K H C HR HT n;⟨st_step K H C HR HT ih.2,ss_step X ih.1 ih.2⟩
end
theorem zip_look:∀ {ns:List Str} {vs:List Value},ns.Nodup→ns.length=vs.length→ns.filterMap (λ n=>((ns.zip vs).lookup n).map (n,·))=ns.zip vs:=by
 have key:∀ (ns:List Str) (vs:List Value) (pre:List (Str×Value)),(∀ n∈ns,pre.lookup n=none)→ns.Nodup→ns.length=vs.length→ns.filterMap (λ n=>((pre++ns.zip vs).lookup n).map (n,·))=ns.zip vs:=by
  intro ns
  induction ns with
  | nil=>intro vs pre _ _ _;rfl
  | cons n r ih=>
   intro vs pre hp hn hl
   cases vs with
   | nil=>simp at hl
   | cons v vs=>
    rw [List.nodup_cons] at hn
    have h1:(pre++(n :: r).zip (v :: vs)).lookup n=some v:=by
     refine rwg (List.lookup_append ..) ?_
     refine rwg (hp n (.head _) ..) ?_
     simp [List.lookup_cons]
    refine rwg (List.filterMap_cons ..) ?_
    refine rwg (h1 ..) ?_
    show (n,v) :: _=_
    rw [(by simp:pre++(n :: r).zip (v :: vs)=(pre++[(n,v)])++r.zip vs),ih vs (pre++[(n,v)]) (λ m hm=>by
     refine rwg (List.lookup_append ..) ?_
     refine rwg (hp m (.tail _ hm) ..) ?_
     have:(m == n)=false:=by rw [beq_eq_false_iff_ne];rintro rfl;exact hn.1 hm
     simp [List.lookup_cons,this]) hn.2 (by simpa using hl)]
    rfl
 intro ns vs hn hl
 exact key ns vs [] (λ zz zz=>rfl) hn hl
theorem zip_isSome {n:Str}:∀ {ns:List Str} {vs:List Value},n∈ns→ns.length=vs.length→((ns.zip vs).lookup n).isNone=false
 | m :: r,v :: vs,h,hl=>by
  refine rwg (List.zip_cons_cons ..) ?_
  refine rwg (List.lookup_cons ..) ?_
  cases hq:n == m with
  | true=>rfl
  | false=>
   rcases List.mem_cons.mp h with q | q
   ·rw [q] at hq;simp at hq
   ·exact zip_isSome q (by simpa using hl)
 | [],zz,h,zy=>by cases h
 | _ :: _,[],_,hl=>by simp at hl
theorem bind_plain {fd:FuncData} {vals:List Value} {as:List Arg} (hp:fd.params = { posonlyargs:=[],args:=as,vararg:=none,kwonlyargs:=[],kw_defaults:=[],kwarg:=none,defaults:=[] }) (hd:fd.defaults = .none)
  (hl:(as.map (·.arg)).length=vals.length) (hnd:(as.map (·.arg)).Nodup):bindArgs fd ⟨vals,[]⟩=pure ((as.map (·.arg)).zip vals):=by
 unfold bindArgs
 refine rwg (hp ..) ?_
 refine rwg (hd ..) ?_
 dsimp only [List.map_nil,List.nil_append]
 generalize as.map (·.arg)=ns at *
 refine Eq.trans (if_neg (by show ¬ (decide (vals.length > ns.length) && true)=true;rw [hl];simp)) ?_
 have e:∀ k,List.drop k ((none:Option (Array Value)).getD #[]).toList=[]:=λ k=>List.drop_nil
 refine rwg (e ..) ?_
 refine Eq.trans (if_neg ?_) ?_
 ·show ¬ (!(List.isEmpty ((ns.take (ns.length - 0)).filter λ n=>((ns.zip vals).lookup n).isNone)))=true
  rw [List.filter_eq_nil_iff.mpr λ n hn=>by rw [zip_isSome (List.mem_of_mem_take hn) hl];decide];decide
 rw [List.zip_nil_right]
 refine Eq.trans (b:=pure ((ns++[]).filterMap λ n=>((ns.zip vals).lookup n).map (n,·))) (by kernel_rfl) ?_
 refine rwg (List.append_nil ..) ?_
 refine rwg (zip_look hnd hl ..) rfl
section
variable {G:Gd} {A:Around} {fr:List Addr} {d:Nat} {env:Env} {β:Type}
theorem Inv.push {ι:Img} {σ:AH} {h:Heap} {L:Addr} (I:Inv G fr ι σ h) (hn:∃ m,h.Ns L m) (ho:¬ Own ι L) (hb:G.base.objs.size≤L):Inv G (L :: fr) ι σ h:=
 ⟨I.len,I.at_,I.apart,I.new,I.base,I.size,λ b hb'=>by
  rcases List.mem_cons.mp hb' with rfl | hb'
  ·exact⟨hn,ho,hb⟩
  ·exact I.frames b hb'⟩
theorem Inv.pop {ι:Img} {σ:AH} {h:Heap} {L:Addr} (I:Inv G (L :: fr) ι σ h):Inv G fr ι σ h:=
 ⟨I.len,I.at_,I.apart,I.new,I.base,I.size,λ b hb'=>I.frames b (.tail _ hb')⟩
theorem At.deeper (H:At A fr (d + 1)) {env:Env} {L:Addr} (hk:env.scope.kind = .function) (hf:env.frame=some L):At (A.deeper env) (L :: fr) d:=by
 refine ex34 (H.frames) λ fenv outer L0 h1 h2 h3 h4=>?_
 refine⟨H.handled,⟨env,fenv :: outer,L,by show A.frames.map (env :: ·)=_;rw [h1];rfl,hf,by rw [h3,List.filterMap_cons,h2],λ e he=>?_⟩,?_,?_⟩
 ·rcases List.mem_cons.mp he with rfl | he
  ·exact⟨by rw [hk];decide,by rw [hf];rfl⟩
  ·exact h4 e he
 ·have:=H.depth
  show A.depth + 1 + 8 * d + 20 < recursionLimit
  lia
 ·have:=H.units
  show A.units + 3 + 100 * d + 400 < cLine
  lia
theorem bindL_get {ι:Img} {h:Heap} {kindOf:Str→Option NameKind} {y:Str} {a:AV}:∀ {ps:List Str} {vs:List AV} {ws:List Value} {m:Str→Option Value},ps.Nodup→ps.length=vs.length→RepVs G ι h vs ws→kvGet (ps.zip vs) y=some a→kindOf y=some .local →
  ∃ u,bindL kindOf (ps.zip ws) m y=some u∧RepV G ι h a u
 | p :: ps,v :: vs,ws,m,hn,hl,R,e,hk=>by
  refine ex23 (repsC R) λ w ws rr2 r1 r2=>?_
  subst rr2
  rw [List.nodup_cons] at hn
  simp only [List.zip_cons_cons] at e ⊢
  unfold kvGet at e
  unfold bindL
  by_cases hp:p=y
  ·subst hp
   rw [if_pos rfl] at e
   cases e
   refine rwg (if_pos hk ..) ?_
   have:∀ (l:List Str) (xs:List Value) (m:Str→Option Value),p ∉ l→bindL kindOf (l.zip xs) m p=m p:=by
    intro l
    induction l with
    | nil=>intro xs m _;rfl
    | cons q l ih=>
     intro xs m hq
     cases xs with
     | nil=>rfl
     | cons x xs=>
      refine rwg (List.zip_cons_cons ..) ?_
      unfold bindL
      rw [ih xs _ (λ z=>hq (.tail _ z))]
      have:p≠q:=λ z=>hq (z▸.head _)
      split
      ·exact if_neg this
      ·rfl
   refine rwg (this _ _ _ hn.1 ..) ?_
   exact⟨w,if_pos rfl,r1⟩
  ·rw [if_neg hp] at e
   exact bindL_get hn.2 (by simpa using hl) r2 e hk
 | [],zz,zy,zx,zw,zv,zu,e,zt=>by simp [kvGet] at e
 | _ :: _,[],_,_,_,hl,_,_,_=>by simp at hl
theorem bindC_get {ι:Img} {h:Heap} {kindOf:Str→Option NameKind} {y:Str} {a:AV}:∀ {ps:List Str} {vs:List AV} {ws:List Value} {m:Str→Option Value},ps.Nodup→ps.length=vs.length→RepVs G ι h vs ws→kvGet (ps.zip vs) y=some a→kindOf y≠some .local →
  ∃ u,bindC kindOf (ps.zip ws) m y=some u∧RepV G ι h a u
 | p :: ps,v :: vs,ws,m,hn,hl,R,e,hk=>by
  refine ex23 (repsC R) λ w ws rr2 r1 r2=>?_
  subst rr2
  rw [List.nodup_cons] at hn
  simp only [List.zip_cons_cons] at e ⊢
  unfold kvGet at e
  unfold bindC
  by_cases hp:p=y
  ·subst hp
   rw [if_pos rfl] at e
   cases e
   refine rwg (if_neg hk ..) ?_
   have:∀ (l:List Str) (xs:List Value) (m:Str→Option Value),p ∉ l→bindC kindOf (l.zip xs) m p=m p:=by
    intro l
    induction l with
    | nil=>intro xs m _;rfl
    | cons q l ih=>
     intro xs m hq
     cases xs with
     | nil=>rfl
     | cons x xs=>
      refine rwg (List.zip_cons_cons ..) ?_
      unfold bindC
      rw [ih xs _ (λ z=>hq (.tail _ z))]
      have:p≠q:=λ z=>hq (z▸.head _)
      split
      ·rfl
      ·exact if_neg this
   refine rwg (this _ _ _ hn.1 ..) ?_
   exact⟨w,if_pos rfl,r1⟩
  ·rw [if_neg hp] at e
   exact bindC_get hn.2 (by simpa using hl) r2 e hk
 | [],zz,zy,zx,zw,zv,zu,e,zt=>by simp [kvGet] at e
 | _ :: _,[],_,_,_,hl,_,_,_=>by simp at hl
set_option tactic.hygienic true in
theorem cells_has {x:Str}:∀ {l:List (Str×NameKind)} {n:Nat} {acc:List (Str×Addr)},(x,NameKind.cell)∈l∨(∃ c,acc.lookup x=some c)→∃ c,(cellsFrom n l acc).lookup x=some c
 | [],n,acc,h=>by
  rcases h with h | h
  ·cases h
  ·exact h
 | (y,k) :: r,n,acc,h=>by
  unfold cellsFrom
  split
  ·rename_i hk
   apply cells_has
   rcases h with h | ⟨c,h⟩
   ·rcases List.mem_cons.mp h with h | h
    ·cases h;exact .inr ⟨n,by simp [List.lookup_cons]⟩
    ·exact .inl h
   ·right
    cases hx:x == y with
    | true=>exact⟨n,by simp [List.lookup_cons,hx]⟩
    | false=>exact⟨c,by simp [List.lookup_cons,hx,h]⟩
  ·rename_i hk
   apply cells_has
   rcases h with h | h
   ·rcases List.mem_cons.mp h with h | h
    ·cases h;exact absurd rfl hk
    ·exact .inl h
   ·exact .inr h
theorem pair_apart {cs:List (Str×Addr)} (hp:cs.Pairwise λ x y=>x.2≠y.2) {x y:Str} {c:Addr} (h1:(x,c)∈cs) (h2:(y,c)∈cs):x=y:=by
 induction cs with
 | nil=>cases h1
 | cons p r ih=>
  rw [List.pairwise_cons] at hp
  rcases List.mem_cons.mp h1 with h1 | h1
  ·clear ih
   rcases List.mem_cons.mp h2 with h2 | h2
   ·rw [← h1] at h2;cases h2;rfl
   ·exact absurd (by rw [← h1]) (hp.1 _ h2)
  ·rcases List.mem_cons.mp h2 with h2 | h2
   ·exact absurd (by rw [← h2]) (hp.1 _ h1)
   ·exact ih hp.2 h1 h2
theorem look_mem {x:Str} {c:Addr}:∀ {l:List (Str×Addr)},l.lookup x=some c→(x,c)∈l
 | (y,j) :: r,h=>by
  rw [List.lookup_cons] at h
  cases hb:x == y with
  | true=>rw [hb] at h;cases h;rw [beq_iff_eq.mp hb];exact .head _
  | false=>rw [hb] at h;exact .tail _ (look_mem h)
 | [],h=>by cases h
end
section
variable {G:Gd} {A:Around} {fr:List Addr} {d:Nat} {env:Env} {β:Type}
theorem fun_ok (K:Gok G) (H:At A fr (d + 1)) {X:Cx} (hS:∀ A' fr',At A' fr' d→∀ n,SsOk G A' fr' X n) {a:Addr} {ps:List Str} {body:List Stmt} {sc:Scope} (hf:G.T.fn a=some (ps,body,sc)) {vs:List AV} {ws:List Value} (hl:ps.length=vs.length) (hok:fnOk ps sc=true)
  {ι:Img} {σ:AH} {s:Shared} {r:Except AV AV} {σ':AH} (ht:0 < s.toks) (I:Inv G fr ι σ s.heap) (hr:RepVs G ι s.heap vs ws) (e:exSs X 60 sc body (ps.zip vs) (λ zz=>pure .none) σ=some (r,σ')) {R:Result→Shared→Prop}
  (hR:∀ v s',OkS G fr ι s (RV G) r σ' v s'→R (.ok (.ret v)) s') (hE:∀ x s',ErS G fr ι s r σ' x s'→R (.error x) s'):
  codeAny (model G.prog G.w) A (.call (.ref a) ⟨ws,[]⟩) R s:=by
 obtain⟨oc,od,osl,name,qual,params,doc,pm,an,cdv,ct,hk,hcd,hpar,hps⟩:=K.fn a ps body sc hf
 have XK:G.K.In s.heap:=G.hK.keeps I.base
 have hok':=hok
 unfold fnOk at hok'
 simp only [Bool.and_eq_true,List.all_eq_true,Bool.or_eq_true,decide_eq_true_eq] at hok'
 obtain⟨⟨⟨⟨hsc,hnf⟩,hpk⟩,hpn⟩,hnn⟩:=hok'
 have hsc':=hsc
 unfold scOk at hsc'
 simp only [Bool.and_eq_true,Bool.not_eq_true',decide_eq_true_eq] at hsc'
 obtain⟨⟨⟨hkind,hgen⟩,hco⟩,_⟩:=hsc'
 have hlw:ws.length=vs.length:=hr.length
 have hbind:bindArgs (fnOf name qual params body sc .none .none doc pm an cdv ct) ⟨ws,[]⟩=pure (ps.zip ws):=by
  rw [hps]
  exact bind_plain (by rw [hpar]) rfl (by rw [← hps,hl,hlw]) (by rw [← hps];exact hpn)
 have hroom:A.depth < recursionLimit:=by have:=H.depth;lia
 generalize hLdef:s.heap.objs.size=L
 have nL:s.heap.get? L=none:=by rw [← hLdef];exact get_size _
 refine codeAny_call_function (fd:=fnOf name qual params body sc .none .none doc pm an cdv ct) (body:=body) hroom (XK _ _ hk) rfl hco hgen rfl (codeRec_of XK hcd) ?_
 refine rwg (hbind ..) ?_
 refine wpAny_pure ?_
 have hkd:∀ x∈ps.zip ws,sc.names.lookup x.1=some .local∨(sc.names.lookup x.1=some .cell∧((cellsFrom (s.heap.objs.size + 1) sc.names []).lookup x.1).isSome=true):=by
  intro x hx
  have hx1:x.1∈ps:=by
   have y:=(x).1
   have v:=(x).2
   exact (List.of_mem_zip hx).1
  rcases hpk x.1 hx1 with q | q
  ·exact .inl q
  ·refine .inr ⟨q,?_⟩
   obtain⟨c,hc⟩:=cells_has (n:=s.heap.objs.size + 1) (acc:=[]) (.inl (lookup_mem q))
   rw [hc];rfl
 refine wpAny_mono (wpAny_toks (wpAny_newFunctionEnv_cells (M:=model G.prog G.w) (A:=A.in1) (E:=λ zz zz=>False) (Q:=λ env s'=>env=callEnvC (fnOf name qual params body sc .none .none doc pm an cdv ct) s.heap.objs.size a∧InCallC s env.locals (bindL env.kindOf (ps.zip ws) λ zz=>none) env.cells (bindC env.kindOf (ps.zip ws) λ zz=>none) s') hkind hkd λ env he s' x=>⟨he,x⟩)) ?_ (λ zz zz q=>q.1.elim)
 ·rintro env0 s₁ ⟨⟨rfl,C⟩,htk1⟩
  refine⟨K.lim.keeps (λ b o q=>C.toInCall.keep _ _ (I.base b o q)),codeAny_func ?_⟩
  rw [hLdef] at C ⊢
  obtain⟨hI,hcell,hap,hab⟩:=C
  obtain⟨⟨h1,tk1,hs1⟩,hns,hkeep,hfresh⟩:=hI
  subst hs1
  have hloc:(callEnvC (fnOf name qual params body sc .none .none doc pm an cdv ct) L a).locals=L:=rfl
  generalize henv:callEnvC (fnOf name qual params body sc .none .none doc pm an cdv ct) L a=env at *
  have hsce:env.scope=sc:=by rw [← henv];rfl
  have hko:∀ x,env.kindOf x=sc.names.lookup x:=λ x=>by rw [← henv];rfl
  have hframe:env.frame=some L:=by rw [← henv];rfl
  have hcells:env.cells=cellsFrom (L + 1) sc.names []:=by rw [← henv];rfl
  have I1:=(I.keeps H.ne (.of hkeep)).1
  have S1:=(I.keeps H.ne (.of hkeep)).2
  have hoL:¬ Own ι L:=λ z=>by obtain⟨o,ho,_⟩:=I.own z;rw [nL] at ho;cases ho
  have hbL:G.base.objs.size≤L:=by rw [← hLdef];exact I.size
  rw [hloc] at hns
  have I2:Inv G (L :: fr) ι σ h1:=I1.push ⟨_,hns⟩ hoL hbL
  have hH:At (A.deeper env) (L :: fr) d:=H.deeper (by rw [hsce];exact hkind) hframe
  have N:En env sc (L :: fr):=⟨by rw [hsce];exact hkind,by rw [← henv];rfl,by rw [← henv];rfl,⟨L,fr,rfl,hframe⟩,λ x e=>by rw [hko];exact e,λ x e=>by rw [hko];exact e,λ x e=>.inl (by rw [hko];exact e),λ x e=>by rw [hko];exact e,hsc⟩
  have above:∀ x c,env.cells.lookup x=some c→L < c:=λ x c e=>by rw [← hloc];exact hab x c (look_mem e)
  have F:Fn G env (L :: fr):=⟨⟨fr,by rw [hloc]⟩,λ x y c e1 e2=>pair_apart hap (look_mem e1) (look_mem e2),λ x c e=>Heap.get?_none_of_le (by have:=above x c e;lia)⟩
  have hr1:=RepVs.step I S1 mildNo _ _ hr
  have Lc1:Loc G env (ps.zip vs) ι h1:=by
   refine⟨⟨_,by rw [hloc];exact hns,λ x b e k=>bindL_get hpn hl hr1 e k⟩,λ x c e=>⟨_,hcell x c e,λ b eb k=>?_⟩,λ x k=>?_,by rw [hloc];exact hoL⟩
   ·exact bindC_get hpn hl hr1 eb (by rcases k with k | k<;>rw [k]<;>intro z<;>cases z)
   ·rw [hko] at k
    refine rwg (hcells ..) ?_
    rcases k with k | k
    ·exact cells_has (.inl (lookup_mem k))
    ·exact absurd rfl (hnf _ (lookup_mem k))
  have out:∀ {ι2:Img} {h2:Heap} {σ2:AH},Step (Wst env) (L :: fr) ι ι2 h1 h2→Inv G (L :: fr) ι2 σ2 h2→Step NoW fr ι ι2 s.heap h2∧Inv G fr ι2 σ2 h2:=by
   intro ι2 h2 σ2 S I3
   have notW:∀ b o,s.heap.get? b=some o→¬ Wst env b:=by
    rintro b o e (w | ⟨x,hx⟩)
    ·rw [w,hloc,nL] at e;cases e
    ·have q1:=above x b hx
     have q2:b < s.heap.objs.size:=Heap.lt_size e
     rw [hLdef] at q2
     exact absurd (Nat.lt_trans q1 q2) (Nat.lt_irrefl _)
   have neL:∀ b o,s.heap.get? b=some o→b≠L:=λ b o e q=>by rw [q,nL] at e;cases e
   refine⟨⟨?_,λ b o e n f zz=>?_,λ b hb zz m e=>?_,λ b o e=>S.alive b o (hkeep b o e)⟩,I3.pop⟩
   ·refine ex12 (S.ext) λ more e1 e2=>?_
    refine⟨more,e1,λ p hp=>?_⟩
    have key:∀ b,h1.get? b=none→s.heap.get? b=none:=λ b q=>by
     cases q2:s.heap.get? b with
     | none=>rfl
     | some o=>have:=hkeep b o q2;rw [show ({ s with heap:=h1,toks:=tk1 }:Shared).heap=h1 from rfl] at this;rw [this] at q;cases q
    exact⟨key _ (e2 p hp).1,key _ (e2 p hp).2⟩
   ·exact S.keep b o (hkeep b o e) n (λ z=>by rcases List.mem_cons.mp z with z | z;exact neL b o e z;exact f z) (notW b o e)
   ·have e':h1.Ns b m:=e.keeps hkeep
    refine ex32 (e) λ o es ep ho zz=>?_
    exact S.ns b (.tail _ hb) (notW b o ho) m e'
  have ht1:0 < tk1:=Nat.lt_of_lt_of_le ht htk1
  refine wpAny_mono (hS _ _ hH 60 sc body (ps.zip vs) _ env N F ι σ { s with heap:=h1,toks:=tk1 } r σ' ht1 I2 Lc1 e) ?_ ?_
  ·intro f s2 q
   clear henv hLdef hE hr I ht hok hl hf hS H K ht1 Lc1 hr1 F above N hH I2 hbL hoL hcells hframe hko hsce hloc hkd nL hroom hbind hlw XK e htk1 S1 I1 hfresh hkeep hns hab hap hcell hco hgen hkind hnn hpn hpk hnf hsc hps hpar hcd hk ct cdv an pm doc params qual name osl od oc σ ws vs body ps a X
   cases f with
   | next=>
    obtain⟨lc',h2,tk2,ι2,σ2,rfl,S,I3,_,e2⟩:=q
    cases e2
    obtain⟨S',I'⟩:=out S I3
    exact hR _ _ ⟨_,rfl,h2,tk2,ι2,rfl,S',I',rfl⟩
   | ret v=>
    obtain⟨b,hb,h2,tk2,ι2,rfl,S,I3,hv⟩:=q
    obtain⟨S',I'⟩:=out S I3
    exact hR _ _ ⟨b,hb,h2,tk2,ι2,rfl,S',I',hv⟩
   | brk=>exact q.elim
   | cont=>exact q.elim
  ·rintro x s2 ⟨p,hp,h2,tk2,ι2,y,rfl,rfl,S,I3,F3⟩
   refine leaving_wp (s:={ s with heap:=h2,toks:=tk2 }) hH hframe rfl I2 S I3 F3 λ h4 S4 I4 F4=>?_
   obtain⟨S',I'⟩:=out S4 I4
   exact hE _ _ ⟨p,hp,h4,tk2,ι2,y,rfl,rfl,S',I',F4.mono λ b o e=>⟨o,hkeep b o e⟩⟩
end
section
variable {G:Gd} {A:Around} {fr:List Addr} {d:Nat} {env:Env} {β:Type}
noncomputable def CodeOk (G:Gd) (fuel d:Nat):Prop:=∀ (A:Around) (fr:List Addr),At A fr d→∀ (f:Nat) (vs:List AV) (ws:List Value) (ι:Img) (σ:AH) (s:Shared) (r:Except AV AV) (σ':AH),
 0 < s.toks→Inv G fr ι σ s.heap→RepVs G ι s.heap vs ws→callF G.T fuel d f vs σ=some (r,σ')→∀ (R:Result→Shared→Prop),
  (∀ v s',OkS G fr ι s (RV G) r σ' v s'→R (.ok (.ret v)) s')→(∀ x s',ErS G fr ι s r σ' x s'→R (.error x) s')→codeAny (model G.prog G.w) A (.call (.ref f) ⟨ws,[]⟩) R s
theorem callF_keep (K:Gok G) {fuel:Nat}:∀ {d:Nat} {f:Nat} {vs:List AV} {σ:AH} {r:Except AV AV×AH},callF G.T fuel d f vs σ=some r→KeepOk G (.ref f)
 | 0,f,vs,σ,r,e=>by cases e
 | d + 1,f,vs,σ,r,e=>by
  unfold callF at e
  cases hf:G.T.fn f with
  | some q=>exact KeepOk.ref (K.live f q hf)
  | none=>
   rw [hf] at e
   cases hi:G.T.ini f with
   | none=>rw [hi] at e;cases e
   | some g=>exact KeepOk.ref (K.liveC f g hi)
theorem CodeOk.call (K:Gok G) {fuel:Nat} (h:CodeOk G fuel d) (H:At A fr d):CallOk G A fr ⟨G.T,callF G.T fuel d,fuel⟩:=
 ⟨rfl,λ f vs σ r e=>callF_keep K e,λ f vs ws ι σ s r σ' ht I hp e=>wpAny_call (h A fr H f vs ws ι σ s r σ' ht I hp e _ (λ v s' q=>q) λ x s' q=>q)⟩
theorem At.under (H:At A fr (d + 1)) {C:Addr} {rest:List Value}:At (A.under (.builtin "type.__call__" ⟨.ref C :: rest,[]⟩)) fr d:=by
 refine⟨H.handled,?_,?_,?_⟩
 ·refine ex32 (H.frames) λ fenv outer L h1 h2=>?_
  refine⟨fenv,outer,L,?_,h2⟩
  unfold Around.under
  dsimp only
  rw [(rfl:(Code.builtin "type.__call__" ⟨.ref C :: rest,[]⟩).envs=[]),h1];rfl
 ·have:=H.depth
  have hw:(Code.builtin "type.__call__" ⟨.ref C :: rest,[]⟩).weight=1:=by kernel_rfl
  unfold Around.under
  dsimp only
  refine rwg (hw ..) ?_
  lia
 ·have:=H.units
  have hw:(Code.builtin "type.__call__" ⟨.ref C :: rest,[]⟩).cUnits=1:=by kernel_rfl
  unfold Around.under
  dsimp only
  refine rwg (hw ..) ?_
  lia
set_option tactic.hygienic true in
theorem code_ok (K:Gok G) (fuel:Nat) (hx:∀ d X A fr,At A fr d→CallOk G A fr X→RaOk G A fr X∧TrOk G A fr X):∀ d,CodeOk G fuel d
 | 0=>λ A fr H f vs ws ι σ s r σ' ht I hp e=>by cases e
 | d + 1=>by
  have ih:=code_ok K fuel hx d
  intro A fr H f vs ws ι σ s r σ' ht I hp e R hR hE
  unfold callF at e
  cases hf:G.T.fn f with
  | some q=>
   have ps:=(q).1
   have body:=(q).2.1
   have sc:=(q).2.2
   rw [hf] at e
   dsimp only at e
   split at e
   case isFalse=>cases e
   rename_i hc
   refine fun_ok K H (X:=⟨G.T,callF G.T fuel d,fuel⟩) (λ A' fr' H' n=>?_) hf hc.1 hc.2 ht I hp e hR hE
   have C:=ih.call K H'
   obtain⟨h1,h2⟩:=hx d _ _ _ H' C
   exact (st_all K H' C h1 h2 n).2
  | none=>
   rw [hf] at e
   cases hi:G.T.ini f with
   | none=>rw [hi] at e;cases e
   | some g=>
   rw [hi] at e
   dsimp only at e
   refine ex04 (K.ini f g hi) λ m1 m2 m3 m4=>?_
   have XK:G.K.In s.heap:=G.hK.keeps I.base
   obtain⟨hh,gens,dr,t,os⟩:=s
   rcases andThen_cases e with ⟨p,q1,rfl⟩ | ⟨o,σ1,q1,q2⟩
   ·cases q1
   unfold newO at q1
   cases q1
   have kp:∀ b o,hh.get? b=some o→((hh.push emptyDict).push (instObj f hh.objs.size)).get? b=some o:=λ b o q=>Heap.get?_push_of_some _ (Heap.get?_push_of_some _ q)
   have hx1:((hh.push emptyDict).push (instObj f hh.objs.size)).get? (hh.objs.size + 1)=some (instObj f hh.objs.size):=by
    have:=Heap.get?_push_size (hh.push emptyDict) (o:=instObj f hh.objs.size) rfl
    rwa [Heap.size_push] at this
   have hx2:((hh.push emptyDict).push (instObj f hh.objs.size)).get? hh.objs.size=some emptyDict:=Heap.get?_push_of_some _ (Heap.get?_push_size _ rfl)
   obtain⟨I1,S1⟩:=I.add (h':=(hh.push emptyDict).push (instObj f hh.objs.size)) (p:=(hh.objs.size + 1,hh.objs.size)) (o:=.inst f []) H.ne (.of kp) (Heap.get?_none_of_le (Nat.le_succ _)) (get_size _) λ zz=>⟨hx1,Nat.zero_le _,[],0,hx2,trivial⟩
   have hpi:(ι++[(hh.objs.size + 1,hh.objs.size)])[σ.length]? = some (hh.objs.size + 1,hh.objs.size):=by rw [← I.len];simp
   have hself:RepVs G (ι++[(hh.objs.size + 1,hh.objs.size)]) ((hh.push emptyDict).push (instObj f hh.objs.size)) (.obj σ.length :: vs) (.ref (hh.objs.size + 1) :: ws):=by
    exact⟨⟨_,hpi,rfl⟩,RepVs.step I S1 mildNo _ _ hp⟩
   refine make_core (makes_of XK m1) (looks_findIn XK m2) (λ self=>bind_fn XK self (beq_iff_eq.mp (by rw [m3];rfl))) (.inl rfl) ?_
   rcases andThen_cases q2 with ⟨p,q3,rfl⟩ | ⟨rv,σ2,q3,q4⟩
   ·refine ih _ _ H.under g _ _ _ _ ⟨(hh.push emptyDict).push (instObj f hh.objs.size),gens,dr,t,os⟩ _ _ ht I1 hself q3 _ ?_ ?_
    ·rintro v s' ⟨b,z,_⟩;cases z
    ·rintro x s' ⟨p',z,o⟩
     cases z
     exact hE x s' ⟨_,rfl,ErP.after (s:=⟨hh,gens,dr,t,os⟩) (tk:=t) S1 o⟩
   ·refine ih _ _ H.under g _ _ _ _ ⟨(hh.push emptyDict).push (instObj f hh.objs.size),gens,dr,t,os⟩ _ _ ht I1 hself q3 _ ?_ ?_
    ·clear hx K hself hx2 hx1 kp XK ih q3 q2 hE e hp I ht ws vs H A I1 m4 m3 m2 m1 fuel
     rintro v s' ⟨b,z,h2,tk2,ι2,rfl,S2,I2,hv⟩
     cases z
     cases rv<;>try (cases q4)
     have hv':v = .none:=by exact hv
     refine⟨hv',hR _ _ ⟨_,rfl,h2,tk2,ι2,rfl,S1.trans S2,I2,?_⟩⟩
     exact⟨_,S2.img hpi,rfl⟩
    ·rintro x s' ⟨p',z,o⟩;cases z
end
section
variable {prog:Program} {w:World} {A:Around} {R:Result→Shared→Prop} {h:Heap} {g:Array GenState} {d:Drawn} {t:Nat} {os:OsState}
variable {nm q:Str} {C N:Addr} {bs bm:List Value} {hdct:Bool} {sn:List Str} {sub:List Value} {ab:Bool} {col:Option Bool} {dd:Option Addr} {k0 k1 k2 k3 k5:Option Value}
theorem exc_check {Q:Unit→Shared→Prop} {E:Value→Shared→Prop} (c1:(Value.ref C :: bm).contains (.type "Exception")=true) {rest:List Value}
  (hC:h.get? C=some (excClassObj nm q C N bs bm hdct sn sub ab col dd k0 k1 k2 k3 k5 "Exception.__new__")) (hq:Q () ⟨h,g,d,t,os⟩):wpAny (model prog w) A (checkBuiltinCall "Exception.__new__" ⟨.ref C :: rest,[]⟩) Q E ⟨h,g,d,t,os⟩:=by
 have F:=PySem.F.excBase_Exception
 have hstar:=F.noStar
 unfold checkBuiltinCall
 refine rwg F.newKind ?_
 refine rwg F.newSplit ?_
 refine rwg F.newRow ?_
 dsimp only
 repeat (first | refine wpAny_loadPart_at hC ?_ | (refine wpAny_isSubtype_exc hC ?_;refine rwg c1 ?_) | refine wpAny_staticBase_exc hC ?_ | refine wpAny_madeBy_exc hC ?_ | dsimp only [bne_self_eq_false,Bool.false_eq_true,if_false] | wp_step)
 exact hq
theorem exc_new (hB:bm.contains (.type "Exception")=true) (hA:bm.contains (.type "AttributeError")=false) (hN:bm.contains (.type "NameError")=false) {rest:List Value} (hrest:rest.length≤sizeLine)
  (hC:h.get? C=some (excClassObj nm q C N bs bm hdct sn sub ab col dd k0 k1 k2 k3 k5 "Exception.__new__"))
  (hq:R (.ok (.ret (.ref (h.objs.size + 1)))) ⟨(h.push { cls:=.type "tuple",data:=.seq rest.toArray }).push { cls:=.ref C,data:=.fields #[.ref h.objs.size,.none,.none,.none,.bool false,.none] },g,d,t,os⟩):
  codeAny (model prog w) A (.call (.builtin "Exception.__new__") ⟨.ref C :: rest,[]⟩) R ⟨h,g,d,t,os⟩:=by
 have F:=PySem.F.excBase_Exception
 have hends:=F.ends
 have hstar:=F.noStar
 have c1:(Value.ref C :: bm).contains (.type "Exception")=true:=by rw [List.contains_cons,hB,Bool.or_true]
 have c2:(Value.ref C :: bm).contains (.type "AttributeError")=false:=by rw [List.contains_cons,hA];rfl
 have c3:(Value.ref C :: bm).contains (.type "NameError")=false:=by rw [List.contains_cons,hN];rfl
 refine codeAny_call_builtin_code (Code.quiet_builtin _ F.quiet) (exc_check c1 hC ?_)
 refine codeAny_builtinAt F.entry ?_
 unfold Builtin.«BaseException.__new__»
 refine PySem.wpAt_bind ?_
 show PySem.wpAt _ _ _ (stack>>=_) _ _ _
 refine PySem.wpAt_bind (PySem.wpAt_stack λ p below=>PySem.wpAt_of_wpAny ?_)
 wp_walk
 refine PySem.wpAt_of_wpAny ?_
 refine rwg (F.owner ..) ?_
 repeat (first | with_reducible refine wpAny_madeHere_exc F.canon hC ?_ | with_reducible refine wpAny_loadPart_at hC ?_ | (with_reducible refine wpAny_isSubtype_exc hC ?_;first | rw [c1] | rw [c2] | rw [c3]) | wp_step)
 show R _ _
 refine rwg (Heap.size_push ..) ?_
 exact hq
noncomputable abbrev excObj (C t:Addr):Obj:={ cls:=.ref C,data:=.fields #[.ref t,.none,.none,.none,.bool false,.none] }
noncomputable abbrev tupObj (vs:List Value):Obj:={ cls:=.type "tuple",data:=.seq vs.toArray }
theorem exc_core (hB:bm.contains (.type "Exception")=true) (hA:bm.contains (.type "AttributeError")=false) (hN:bm.contains (.type "NameError")=false) {rest:List Value} (hrest:rest.length≤sizeLine)
  (hC:h.get? C=some (excClassObj nm q C N bs bm hdct sn sub ab col dd k0 k1 k2 k3 k5 "Exception.__new__")) {init:Value}
  (call:Looks (model prog w) h (specialOf (.ref C) "__call__") (some (.builtin "type.__call__"))) (typ:Looks (model prog w) h (isInstance (.ref C) (.type "type")) true)
  (hi:Looks (model prog w) h (typeLookup (.ref C) "__init__") (some init)) (hb:∀ self,Looks (model prog w) h (bindSpecial init self) (init,[self]))
  (hq:codeAny (model prog w) (A.under (.builtin "type.__call__" ⟨.ref C :: rest,[]⟩)) (.call init ⟨.ref (h.objs.size + 1) :: rest,[]⟩) (InitBack (h.objs.size + 1) R) ⟨(h.push (tupObj rest)).push (excObj C h.objs.size),g,d,t,os⟩):
  codeAny (model prog w) A (.call (.ref C) ⟨rest,[]⟩) R ⟨h,g,d,t,os⟩:=by
 have made:Looks (model prog w) h (Bind.madeBy (.ref C)) (some "Exception.__new__"):=λ A Q E s k q=>by
  obtain⟨h',g',d',t',os'⟩:=s
  exact wpAny_madeBy_exc (k _ _ hC) q
 refine codeAny_of_tree ?_
 show wpAny _ _ (callAny (.ref C) _) _ _ _
 refine nd_load hC ?_
 show wpAny _ _ (callAny.viaDunder (.ref C) _) _ _ _
 unfold callAny.viaDunder
 refine wpAny_bind (call.at ?_)
 dsimp only
 refine rwg (tc_bind ..) ?_
 refine wpAny_bind (wpAny_pure (wpAny_bind (wpAny_pure ?_)))
 refine wpAny_pure (a:=Fin.again (.call (.builtin "type.__call__") ⟨.ref C :: rest,[]⟩)) (And.intro rfl ?_)
 refine codeAny_call_builtin_at (Code.quiet_builtin _ (by decide +kernel)) entry_typeCall (check_slot tc_kind tc_split typ (tc_args _ _ _) ?_)
 unfold Builtin.«type.__call__»
 have hm:Looks (model prog w) h (mroOf (.ref C)) (.ref C :: bm):=((Looks.ld (part:=none) hC).andThen .now).andThen .now
 repeat (first | dsimp only [List.isEmpty_cons,Bool.false_eq_true,if_false] | with_reducible refine wpAny_call ?_ | lk)
 refine exc_new hB hA hN hrest hC ?_
 have k:∀ b o,h.get? b=some o→((h.push (tupObj rest)).push (excObj C h.objs.size)).get? b=some o:=λ b o e=>Heap.get?_push_of_some _ (Heap.get?_push_of_some _ e)
 have t1:Looks (model prog w) ((h.push (tupObj rest)).push (excObj C h.objs.size)) (typeOf (.ref (h.objs.size + 1))) (.ref C):=(Looks.ld (by heap_get)).andThen .now
 have s1:Looks (model prog w) ((h.push (tupObj rest)).push (excObj C h.objs.size)) (isSubtype (.ref C) (.ref C)) true:=λ A Q E s kk q=>by
  obtain⟨h',g',d',t',os'⟩:=s
  refine wpAny_isSubtype_exc (kk _ _ (k _ _ hC)) ?_
  rw [show ((Value.ref C :: bm).contains (.ref C))=true from by simp]
  exact q
 have i1:=hi.keeps k
 have b1:=(hb (.ref (h.objs.size + 1))).keeps k
 unfold isInstance callSpecial? specialOf
 repeat (first | with_reducible refine wpAny_call ?_ | lk)
 refine codeAny_mono hq λ r s' z=>?_
 rcases r with e | (v | _ | _ | _)<;>first | exact z | exact z.elim | skip
 obtain⟨rfl,z⟩:=z
 exact wpAny_pure (wpAny_pure z)
end
end
section
open PySem PySem.W PySem.Calls PyProof.Rows Builtin Builtin.ObjectAttr
noncomputable def excEnd:List Value:=[.type "Exception",.type "BaseException",.type "object"]
noncomputable def excTail:List Value→Bool
 | []=>false
 | v :: r=>match v with
  | .ref zz=>excTail r
  | _=>decide (v :: r=excEnd)
theorem excTail_at {l:List Value} (e:excTail l=true):(∃ C r,l = .ref C :: r∧excTail r=true)∨l=[.type "Exception",.type "BaseException",.type "object"]:=by
 cases l with
 | nil=>cases e
 | cons v r=>
  cases v with
  | ref C=>exact .inl ⟨_,_,rfl,e⟩
  | _=>exact .inr (of_decide_eq_true e)
theorem refuse_exc (self:Value):refuseLoop self "__setattr__" [.type "Exception",.type "BaseException",.type "object"]=pure ():=by kernel_rfl
theorem refuse_tail (self:Value):∀ {l:List Value},excTail l=true→refuseLoop self "__setattr__" l=pure ()
 | [],e=>by cases e
 | v :: r,e=>by
  rcases excTail_at e with ⟨C,r',h,h2⟩ | h
  ·cases h
   rw [refuseLoop_ref]
   exact refuse_tail self h2
  ·rw [h];exact refuse_exc self
theorem tail_has {T:String} (hT:T = "Exception"∨T = "BaseException"∨T = "object"):∀ {l:List Value},excTail l=true→l.contains (.type T)=true
 | [],e=>by cases e
 | v :: r,e=>by
  rcases excTail_at e with ⟨C,r',h,h2⟩ | h
  ·cases h
   refine rwg (List.contains_cons ..) ?_
   refine rwg (tail_has hT h2 ..) ?_
   refine rwg (Bool.or_true ..) rfl
  ·rw [h];rcases hT with rfl | rfl | rfl<;>decide
theorem tail_no {T:String} (h1:T≠"Exception") (h2:T≠"BaseException") (h3:T≠"object"):∀ {l:List Value},excTail l=true→l.contains (.type T)=false
 | [],e=>by cases e
 | v :: r,e=>by
  rcases excTail_at e with ⟨C,r',h,h4⟩ | h
  ·cases h
   rw [List.contains_cons,tail_no h1 h2 h3 h4];rfl
  ·rw [h]
   simp [h1,h2,h3]
noncomputable def excOver (K:Frag) (C:Addr):Bool:=(clsIn K C).any λ cd=>excTail cd.mro && cd.hasDict
section
variable {prog:Program} {w:World} {A:Around} {K:Frag} {C x dx:Addr} {s:Shared} {R:Result→Shared→Prop} {E:Value→Shared→Prop}
theorem exc_open {ox:Obj} {od:Option Obj} {name:Str} {tk:Tok} {v:Value} (X:K.In s.heap) (I:InstAt s.heap x ox C od) (hp:excOver K C=true) (ht:takerIn K C name=some none)
  (h:∀ b,wpAny (model prog w) A.in1 (storeInOwnDict (.ref x) (.ref C) (.str name tk) name v b)
   (λ fin s'=>match fin with | .done f=>R (.ok f) s' | .again c'=>c'.quiet=true∧codeAny (model prog w) A c' R s') (λ e s'=>R (.error e) s') s):
  codeAny (model prog w) A (.call (.builtin "object.__setattr__") ⟨[.ref x,.str name tk,v],[]⟩) R s:=by
 have SF:=PySem.F.store_object
 refine ex12 (any_some hp) λ cd hc ho=>?_
 rw [Bool.and_eq_true] at ho
 have ne:cd.mro.isEmpty=false:=by cases q:cd.mro with | nil=>rw [q] at ho;cases ho.1 | cons zz zy=>rfl
 have sub:Looks (model prog w) s.heap (isInstance (.ref x) (.type "object")) true:=I.type.andThen (looks_mroIn X (by unfold mroIn;rw [hc,Option.bind_some,if_neg (by rw [ne];decide),tail_has (.inr (.inr rfl)) ho.1]))
 refine codeAny_call_builtin SF.slot.plain SF.entry (@check_slot (model prog w) _ _ s "object.__setattr__" "object" "__setattr__" (.ref x) [.str name tk,v] [] _ SF.kind SF.split sub (SF.args (.ref x) (.str name tk) v) ?_)
 refine ex12 (Option.bind_eq_some_iff.mp ht) λ attr ha hr=>?_
 have hm:Looks (model prog w) s.heap (mroOf (.ref C)) cd.mro:=(looks_clsIn X hc).andThen .now
 have L3:Looks (model prog w) s.heap (storeTaker? attr) none:=by
  clear h ht hp I hm sub ne SF ha ho hc cd v tk name od ox
  cases attr with
  | none=>exact .now
  | some a=>
   refine ex12 (Option.map_eq_some_iff.mp hr) λ b hb hb2=>?_
   refine (looks_takesIn X hb).andThen ?_
   clear X hr hb
   cases b with
   | false=>exact .now
   | true=>cases hb2
 refine rwg (osa_eq ..) ?_
 refine rwg (refuse_eq ..) ?_
 refine wpAny_bind (wpAny_bind (I.type.here (wpAny_bind (hm.here ?_))))
 refine rwg (refuse_tail _ ho.1 ..) ?_
 refine wpAny_pure (wpAny_bind (I.type.here (wpAny_bind ((looks_findIn X ha).here (wpAny_bind (L3.here ?_))))))
 exact h _
set_option tactic.hygienic true in
theorem exc_put {name:Str} {tk:Tok} {v:Value} {es:List DictEntry} {n:Nat} {Q:PySem.Fin→Shared→Prop} (D:s.heap.get? dx=some (dictOf es n)) (hl:(W.getL name es).isSome=true) (hz:es.length≤900)
  (h:∀ h',h'.get? dx=some (dictOf (W.putL name (PyData.keyHash w.params name) (.str name s.toks) v es) (W.putN name es n))→(∀ b o,b≠dx→s.heap.get? b=some o→h'.get? b=some o)→Q (.done (.ret .none)) { s with heap:=h',toks:=s.toks + 1 }):
  wpAny (model prog w) A (storeInDict dx (.str name tk) name v) Q E s:=by
 unfold storeInDict
 refine wpAny_bind (wpAny_pure (wpAny_bind ?_))
 unfold nsSet
 refine wpAny_bind (wpAny_bind (wpAny_askSetting (wpAny_pure (wpAny_bind (wpAny_mkText (wpAny_bind (wpAny_loadPart D ?_)))))))
 have c:(!es.toArray.any (·.key.isStr name) && es.toArray.any (·.refKey))=false:=by
  refine rwb (Array.any_toList ..) ?_
  refine rwb (Array.any_toList ..) ?_
  unfold W.getL at hl
  split at hl
  ·rename_i en he
   rw [List.any_eq_true.mpr ⟨en,List.mem_of_find?_eq_some he,List.find?_some he⟩];rfl
  ·split at hl
   ·cases hl
   ·rename_i z;rw [Bool.not_eq_true] at z;rw [z,Bool.and_false]
 dsimp only
 refine rwg (aRefKeyMayBeTheName_at ..) ?_
 refine rwg (c ..) ?_
 refine wpAny_updatePart D ?_
 have D':(s.heap.update dx (Obj.putName name (PyData.keyHash w.params name) (.str name s.toks) v)).get? dx=some (dictOf (W.putL name (PyData.keyHash w.params name) (.str name s.toks) v es) (W.putN name es n)):=by
  rw [Heap.get?_update_self _ D (by rw [putName_dict];rfl),putName_dict]
 have hlen:∀ (hsh:Int) (key v:Value) (es:List DictEntry),(W.putL name hsh key v es).length≤es.length + 1:=by
  intro hsh key v es
  induction es with
  | nil=>simp [W.putL]
  | cons e r ih=>
   unfold W.putL
   split
   ·simp
   ·simp only [List.length_cons];lia
 refine wpAny_bind (wpAny_lookBehind D' (pastItsLine_dict (by rw [List.size_toArray,sizeLine_eq];have:=hlen (PyData.keyHash w.params name) (.str name s.toks) v es;lia)) ?_)
 exact wpAny_pure (h _ D' λ b o nb e=>by rw [Heap.get?_update_other _ _ (Ne.symm nb)];exact e)
theorem exc_set1 {name:Str} {v:Value} {vs:Array Value} {sl:Array (Option Value)} {es:List DictEntry} {n:Nat} {Q:Unit→Shared→Prop} (X:K.In s.heap) (hp:excOver K C=true) (hs:findIn K (.ref C) "__setattr__" = some (some (.builtin "object.__setattr__"))) (ht:takerIn K C name=some none)
  (hx:s.heap.get? x=some ⟨.ref C,some dx,.fields vs,sl⟩) (D:s.heap.get? dx=some (dictOf es n)) (hl:(W.getL name es).isSome=true) (hz:es.length≤900)
  (h:∀ h' tk,h'.get? dx=some (dictOf (W.putL name (PyData.keyHash w.params name) (.str name tk) v es) (W.putN name es n))→(∀ b o,b≠dx→s.heap.get? b=some o→h'.get? b=some o)→Q () { s with heap:=h',toks:=s.toks + 2 }):
  wpAny (model prog w) A (setAttr (.ref x) name v) Q E s:=by
 have I:InstAt s.heap x ⟨.ref C,some dx,.fields vs,sl⟩ C (some (dictOf es n)):=⟨hx,rfl,rfl,D⟩
 refine set_plain X I hs (exc_open (s:={ s with toks:=s.toks + 1 }) X I hp ht λ b=>?_)
 refine ex12 (any_some hp) λ cd hc ho=>?_
 rw [Bool.and_eq_true] at ho
 have X':K.In ({ s with toks:=s.toks + 1 }:Shared).heap:=X
 refine wpAny_bind (wpAny_pure (wpAny_bind (wpAny_bind (wpAny_loadPart hx (wpAny_bind ((looks_clsIn X' hc).here ?_))))))
 refine rwg (ho.2 ..) ?_
 refine wpAny_pure (a:=some dx) ?_
 exact exc_put D hl hz λ h' a b=>h h' _ a b
theorem exc_set0 {name:Str} {v:Value} {vs:Array Value} {sl:Array (Option Value)} {Q:Unit→Shared→Prop} (X:K.In s.heap) (hp:excOver K C=true) (hs:findIn K (.ref C) "__setattr__" = some (some (.builtin "object.__setattr__"))) (ht:takerIn K C name=some none)
  (hx:s.heap.get? x=some ⟨.ref C,none,.fields vs,sl⟩)
  (h:∀ h' tk,h'.get? x=some ⟨.ref C,some s.heap.objs.size,.fields vs,sl⟩→h'.get? s.heap.objs.size=some (dictOf [⟨PyData.keyHash w.params name,.str name tk,v⟩] 1)→(∀ b o,b≠x→s.heap.get? b=some o→h'.get? b=some o)→Q () { s with heap:=h',toks:=s.toks + 2 }):
  wpAny (model prog w) A (setAttr (.ref x) name v) Q E s:=by
 have I:InstAt s.heap x ⟨.ref C,none,.fields vs,sl⟩ C none:=⟨hx,rfl,rfl,trivial⟩
 refine set_plain X I hs (exc_open (s:={ s with toks:=s.toks + 1 }) X I hp ht λ b=>?_)
 refine ex12 (any_some hp) λ cd hc ho=>?_
 rw [Bool.and_eq_true] at ho
 have X':K.In ({ s with toks:=s.toks + 1 }:Shared).heap:=X
 refine wpAny_bind (wpAny_pure (wpAny_bind (wpAny_bind (wpAny_loadPart hx (wpAny_bind ((looks_clsIn X' hc).here ?_))))))
 refine rwg (ho.2 ..) ?_
 have hne:x≠s.heap.objs.size:=Nat.ne_of_lt (Heap.lt_size hx)
 have hx1:=Heap.get?_push_of_some emptyDict hx
 refine wpAny_bind (wpAny_alloc (wpAny_bind (wpAny_update hx1 ?_)))
 refine wpAny_pure ?_
 have D1:((s.heap.push emptyDict).update x λ o=>{ o with dict:=some s.heap.objs.size }).get? s.heap.objs.size=some (dictOf [] 0):=by
  rw [Heap.get?_update_other _ _ hne]
  exact Heap.get?_push_size _ rfl
 refine exc_put (s:={ s with heap:=(s.heap.push emptyDict).update x λ o=>{ o with dict:=some s.heap.objs.size },toks:=s.toks + 1 }) D1 rfl (by decide) λ h' a b=>?_
 exact h h' _ (b _ _ hne (Heap.get?_update_self _ hx1 rfl)) a λ b' o nb e=>b b' o (Nat.ne_of_lt (Heap.lt_size e)) (by rw [Heap.get?_update_other _ _ (Ne.symm nb)];exact Heap.get?_push_of_some _ e)
end
section
variable {prog:Program} {w:World} {A:Around} {K:Frag} {C x dx:Addr} {s:Shared} {R:Result→Shared→Prop} {E:Value→Shared→Prop}
theorem exc_get {name:Str} {u:Value} {expr:Bool} {vs:Array Value} {sl:Array (Option Value)} {es:List DictEntry} {n:Nat} {Q:Value→Shared→Prop} (X:K.In s.heap) (hp:excOver K C=true)
  (hga:findIn K (.ref C) "__getattribute__" = some (some (.builtin "BaseException.__getattribute__"))) (hno:findIn K (.ref C) "__getattr__" = some none) (ha:findIn K (.ref C) name=some none)
  (hx:s.heap.get? x=some ⟨.ref C,some dx,.fields vs,sl⟩) (D:s.heap.get? dx=some (dictOf es n)) (hl:W.getL name es=some (some u)) (hh:handedIn u=true) (h:Q u { s with toks:=s.toks + 1 }):
  wpAny (model prog w) A (getAttr (.ref x) name expr) Q E s:=by
 have I:InstAt s.heap x ⟨.ref C,some dx,.fields vs,sl⟩ C (some (dictOf es n)):=⟨hx,rfl,rfl,D⟩
 refine ex12 (any_some hp) λ cd hc ho=>?_
 rw [Bool.and_eq_true] at ho
 have ne:cd.mro.isEmpty=false:=by cases q:cd.mro with | nil=>rw [q] at ho;cases ho.1 | cons zz zy=>rfl
 have sub:Looks (model prog w) s.heap (isInstance (.ref x) (.type "BaseException")) true:=I.type.andThen (looks_mroIn X (by unfold mroIn;rw [hc,Option.bind_some,if_neg (by rw [ne];decide),tail_has (.inr (.inl rfl)) ho.1]))
 have hf:findObj K C (some (dictOf es n)) name=some (.value u):=findObj_own (by unfold hasDictIn;rw [hc];exact ho.2) ha rfl hl
 have SL:=PySem.F.attr_Exception.ga
 refine wpAny_bind (wpAny_mkText (wpAny_holding (wpAny_bind (I.type _ _ _ _ (λ zz zz e=>e) (wpAny_bind (looks_findIn X hga _ _ _ _ (λ zz zz e=>e) ?_))))))
 dsimp only
 rw [show (onTheHeap (Value.ref C) && Value.builtin "BaseException.__getattribute__" == Value.builtin "object.__getattribute__")=false from by rw [show (Value.builtin "BaseException.__getattribute__" == Value.builtin "object.__getattribute__")=false from by decide +kernel,Bool.and_false],if_neg (by decide)]
 refine wpAny_bind ((looks_hook X hno:Looks (model prog w) s.heap (hookBefore (.ref C)) none) _ _ _ _ (λ zz zz e=>e) (wpAny_bind (wpAny_attempt (wpAny_holding ?_))))
 unfold callGetattribute
 rw [show (expr && onTheHeap (Value.builtin "BaseException.__getattribute__"))=false from Bool.and_false _,if_neg (by decide)]
 unfold boundAndCalled
 refine rwg (SL.bind ..) ?_
 refine wpAny_bind (wpAny_pure ?_)
 show wpAny _ _ (call (.builtin "BaseException.__getattribute__") [.ref x,.str name s.toks]) _ _ _
 refine wpAny_call ?_
 refine codeAny_call_builtin SL.plain PySem.F.entry_bexc_ga ?_
 refine @check_slot (model prog w) _ _ { s with toks:=s.toks + 1 } "BaseException.__getattribute__" "BaseException" "__getattribute__" (.ref x) [.str name s.toks] [] _ (by decide +kernel) (by decide +kernel) sub (PySem.F.args_bexc_ga (.ref x) (.str name s.toks)) ?_
 unfold Builtin.«object.__getattribute__»
 have I':InstAt ({ s with toks:=s.toks + 1 }:Shared).heap x ⟨.ref C,some dx,.fields vs,sl⟩ C (some (dictOf es n)):=I
 have X':K.In ({ s with toks:=s.toks + 1 }:Shared).heap:=X
 refine wpAny_bind (wpAny_pure (wpAny_bind (wpAny_pure (wpAny_bind (I'.type.here (wpAny_bind ((looks_find X' I' hf).here ?_)))))))
 refine wpAny_pure ?_
 show wpAny _ _ (handedOut u) _ _ _
 refine rwg (handedOut_of hh ..) ?_
 exact wpAny_pure h
end
section
variable {prog:Program} {w:World} {A:Around} {K:Frag} {C x dx:Addr} {s:Shared} {R:Result→Shared→Prop} {E:Value→Shared→Prop}
theorem set_step {M:Model} {env:Env} {b y c:Str} {q1 q2 q3 q4:Pos} {mm:Str→Option Value} {u v:Value} {Q:Flow→Shared→Prop} (hk:env.scope.kind = .function) (hb:env.kindOf b=some .local) (hc:env.kindOf c=some .local)
  (dB:(b == ("__debug__":Str))=false) (dC:(c == ("__debug__":Str))=false) (hn:s.heap.Ns env.locals mm) (e1:mm b=some u) (e2:mm c=some v)
  (h:wpAny M A (setAttr u y v) (λ zz s'=>Q .next s') E s):wpAny M A (exec (.Assign [.Attribute (.Name b q1) y q2] (.Name c q3) q4) env) Q E s:=by
 rw [exec_Assign_arm]
 refine wpAny_bind (wpAny_standAt ?_)
 refine rwg (show swapsWithSole [Expr.Attribute (.Name b q1) y q2] (.Name c q3) q4.line env=pure false from rfl ..) ?_
 refine wpAny_bind (wpAny_pure ?_)
 rw [if_neg (by decide)]
 refine wpAny_bind (wpAny_Name (wpAny_loadName_local hk hc hn e2 ?_) dC)
 refine rwg (show swappedStores [Expr.Attribute (.Name b q1) y q2] (.Name c q3) env=pure none from rfl ..) ?_
 refine wpAny_bind (wpAny_pure ?_)
 show wpAny _ A (assign (.Attribute (.Name b q1) y q2) env v>>=λ zz=>pure Flow.next) _ _ _
 refine wpAny_bind ?_
 refine rwg (assign_Attribute ..) ?_
 refine wpAny_bind (wpAny_holding (wpAny_Name (wpAny_loadName_local hk hb hn e1 ?_) dB))
 refine wpAny_bind (wpAny_standAt ?_)
 refine wpAny_bind (wpAny_holding (wpAny_mono h (λ zz s' z=>wp_release (wpAny_pure z)) λ zz zz z=>z))
end
section
variable {prog:Program} {w:World} {A:Around} {h:Heap} {g:Array GenState} {d:Drawn} {t:Nat} {os:OsState} {R:Result→Shared→Prop} {x t0:Addr} {msg:Value} {vs:Array Value}
variable {nm q:Str} {C N:Addr} {bs bm:List Value} {hdct:Bool} {sn:List Str} {sub:List Value} {ab:Bool} {col:Option Bool} {dd:Option Addr} {k0 k1 k2 k3 k5:Option Value}
theorem exc_base_init (hB:bm.contains (.type "Exception")=true) (hC:h.get? C=some (excClassObj nm q C N bs bm hdct sn sub ab col dd k0 k1 k2 k3 k5 "Exception.__new__"))
  (hx:h.get? x=some ⟨.ref C,none,.fields vs,#[]⟩) (h0:vs[0]? = some (.ref t0))
  (hr:∀ h',h'.get? x=some ⟨.ref C,none,.fields (vs.setIfInBounds 0 (.ref h.objs.size)),#[]⟩→(∀ b o,b≠x→h.get? b=some o→h'.get? b=some o)→R (.ok (.ret .none)) ⟨h',g,d,t,os⟩):
  codeAny (model prog w) A (.call (.builtin "Exception.__init__") ⟨[.ref x,msg],[]⟩) R ⟨h,g,d,t,os⟩:=by
 have F:=PySem.F.excBase_Exception
 have c1:(Value.ref C :: bm).contains (.type "Exception")=true:=by rw [List.contains_cons,hB,Bool.or_true]
 have hshort:=F.noStar
 refine codeAny_call_builtin F.init.plain F.initEntry ?_
 unfold checkBuiltinCall
 refine rwg F.initKind ?_
 refine rwg F.initSplit ?_
 refine rwg F.initRow ?_
 dsimp only
 repeat (first | with_reducible refine wpAny_loadPart_at hx ?_ | with_reducible refine wpAny_loadPart_at hC ?_ | (with_reducible refine wpAny_isSubtype_exc hC ?_;refine rwg c1 ?_) | wp_step)
 have hx1:=Heap.get?_push_of_some (tupObj [msg]) hx
 have h1:(1:Nat)≤sizeLine:=by rw [sizeLine_eq];decide
 refine rwg (h0 ..) ?_
 refine wpAny_pure (wpAny_bind (wpAny_setField hx1 rfl ((Array.getElem?_eq_some_iff.mp h0).1) ?_))
 dsimp only
 unfold letGo
 refine wpAny_bind (wpAny_holding (wpAny_point ?_))
 refine wpAny_pure (wpAny_pure ?_)
 refine hr _ ?_ λ b o nb e=>?_
 ·refine rwg (Heap.get?_update_self _ hx1 rfl ..) ?_
  rfl
 ·refine rwg (Heap.get?_update_other _ _ (Ne.symm nb) ..) ?_
  exact Heap.get?_push_of_some _ e
end
noncomputable def exNames:List Str:=["self","message","place"]
noncomputable def exScope:Scope:={ kind:=.function,names:=[("self",.local),("message",.local),("place",.local),("Exception",.globalImplicit)],isGenerator:=false,isCoroutine:=false }
noncomputable def exBody (q:Nat→Pos):List Stmt:=
 [.Expr (.Call (.Attribute (.Name "Exception" (q 0)) "__init__" (q 1)) [.Name "self" (q 2),.Name "message" (q 3)] [] (q 4)) (q 5),
 .Assign [.Attribute (.Name "self" (q 6)) "message" (q 7)] (.Name "message" (q 8)) (q 9),
 .Assign [.Attribute (.Name "self" (q 10)) "place" (q 11)] (.Name "place" (q 12)) (q 13)]
inductive ExObj (K:Frag) (C:Addr):Prop
 | mk (nm q:Str) (N:Addr) (bs bm:List Value) (hdct:Bool) (sn:List Str) (sub:List Value) (ab:Bool) (col:Option Bool) (dd:Option Addr) (k0 k1 k2 k3 k5:Option Value)
  (hC:K.lookup C=some (excClassObj nm q C N bs bm hdct sn sub ab col dd k0 k1 k2 k3 k5 "Exception.__new__")) (ht:excTail bm=true)
inductive ExIni (K:Frag) (C:Addr):Prop
 | mk (f:Addr) (oc:Value) (od:Option Addr) (osl:Array (Option Value)) (name qual:Str) (params:Arguments) (q:Nat→Pos) (doc pm:Value) (an:Option Addr) (cdv ct:Value) (D:Addr) (oD:Obj) (dv:Value) (n:Nat)
  (i1:findIn K (.ref C) "__init__" = some (some (.ref f))) (i2:typeIn K (.ref f)=some (.type "function"))
  (i3:K.lookup f=some ⟨oc,od,.func (fnOf name qual params (exBody q) exScope (.ref D) .none doc pm an cdv ct),osl⟩) (i4:codeIn K cdv qual=true) (i5:(q 1).endLine=(q 4).line)
  (i6:params.posonlyargs=[]) (i7:params.args.map (·.arg)=exNames) (i8:params.vararg=none) (i9:params.kwonlyargs=[]) (i10:params.kwarg=none) (i11:K.lookup D=some oD) (i12:oD.data = .seq #[dv] n)
structure Exk (G:Gd):Prop where
 obj:ExObj G.K G.T.exc
 over:excOver G.K G.T.exc=true
 call:specialIn G.K (.ref G.T.exc) "__call__" = some (some (.builtin "type.__call__"))
 typ:instIn G.K (.ref G.T.exc) (.type "type")=some true
 keep:keepIn G.K (.ref G.T.exc)=true
 set:findIn G.K (.ref G.T.exc) "__setattr__" = some (some (.builtin "object.__setattr__"))
 fldM:takerIn G.K G.T.exc "message" = some none
 fldP:takerIn G.K G.T.exc "place" = some none
 get:findIn G.K (.ref G.T.exc) "__getattribute__" = some (some (.builtin "BaseException.__getattribute__"))
 noGet:findIn G.K (.ref G.T.exc) "__getattr__" = some none
 noPlace:findIn G.K (.ref G.T.exc) "place" = some none
 exn:nsIn G.K mainGlobals "Exception" = some none
 ini:ExIni G.K G.T.exc
theorem fx_cls (K:Frag):findCls K (.type "Exception") (.type "type") "__init__" = some (.val (.builtin "Exception.__init__")):=by kernel_rfl
theorem fx_boot:bootBuiltins "Exception" = some (.type "Exception"):=by kernel_rfl
theorem fx_hand:handedIn (.builtin "Exception.__init__")=true:=by kernel_rfl
theorem fx_typ:typeOf (.type "Exception")=pure (.type "type"):=by kernel_rfl
theorem fx_stub:Manifest.isStub "Exception" = false:=by kernel_rfl
theorem bind_ex {s:Shared} {name qual:Str} {params:Arguments} {body:List Stmt} {sc:Scope} {doc pm:Value} {an:Option Addr} {cdv ct:Value} {D:Addr} {oD:Obj} {dv a b c:Value} {n:Nat} (h1:params.posonlyargs=[]) (h2:params.args.map (·.arg)=exNames) (h3:params.vararg=none) (h4:params.kwonlyargs=[]) (h5:params.kwarg=none)
  (ho:s.heap.get? D=some oD) (hs:oD.data = .seq #[dv] n):BindsTo s (fnOf name qual params body sc (.ref D) .none doc pm an cdv ct) ⟨[a,b,c],[]⟩ [("self",a),("message",b),("place",c)]:=by
 obtain⟨po,as,va,ko,kd,kw,df⟩:=params
 dsimp only at h1 h2 h3 h4 h5
 subst h1 h3 h4 h5
 rcases as with _ | ⟨⟨a1,x1,y1⟩,_ | ⟨⟨a2,x2,y2⟩,_ | ⟨⟨a3,x3,y3⟩,_ | ⟨a4,r⟩⟩⟩⟩<;>try (cases h2)
 exact BindsTo.of_defaults rfl ho hs rfl rfl
section
variable {G:Gd} {A:Around} {x t0:Addr} {s:Shared} {R:Result→Shared→Prop} {msg u:Value}
set_option maxHeartbeats 2000000 in
theorem exc_init (K:Gok G) (Y:Exk G) (hroom:A.depth < recursionLimit) (base:∀ b o,G.base.get? b=some o→s.heap.get? b=some o) (hsz:G.base.objs.size≤s.heap.objs.size) {f:Addr} {oc:Value} {od:Option Addr} {osl:Array (Option Value)} {name qual:Str} {params:Arguments} {q:Nat→Pos}
  {doc pm:Value} {an:Option Addr} {cdv ct:Value} {D:Addr} {oD:Obj} {dv:Value} {n:Nat}
  (i3:G.K.lookup f=some ⟨oc,od,.func (fnOf name qual params (exBody q) exScope (.ref D) .none doc pm an cdv ct),osl⟩) (i4:codeIn G.K cdv qual=true) (i5:(q 1).endLine=(q 4).line)
  (i6:params.posonlyargs=[]) (i7:params.args.map (·.arg)=exNames) (i8:params.vararg=none) (i9:params.kwonlyargs=[]) (i10:params.kwarg=none) (i11:G.K.lookup D=some oD) (i12:oD.data = .seq #[dv] n)
  (hx:s.heap.get? x=some (excObj G.T.exc t0)) (nx:G.base.get? x=none)
  (hR:∀ h' tk dx es n vs,h'.get? x=some ⟨.ref G.T.exc,some dx,.fields vs,#[]⟩→s.heap.get? dx=none→h'.get? dx=some (dictOf es n)→W.getL (nm "place") es=some (some u)→2≤vs.size→vs[1]? = some .none →
   (∀ b o,b≠x→s.heap.get? b=some o→h'.get? b=some o)→R (.ok (.ret .none)) { s with heap:=h',toks:=tk }):
  codeAny (model G.prog G.w) A (.call (.ref f) ⟨[.ref x,msg,u],[]⟩) R s:=by
 obtain⟨nm',q',N,bs,bm,hdct,sn,sub,ab,col,dd,k0,k1,k2,k3,k5,hC,htail⟩:=Y.obj
 have XK:G.K.In s.heap:=G.hK.keeps base
 refine codeAny_call_def (fd:=fnOf name qual params (exBody q) exScope (.ref D) .none doc pm an cdv ct) hroom (XK _ _ i3) rfl (K.lim.keeps base) (codeRec_of XK i4) rfl (bind_ex i6 i7 i8 i9 i10 (XK _ _ i11) i12) (show ∀ y∈exScope.names,y.2≠.cell by decide) ?_ λ h₀ hns hkeep=>?_
 ·intro y hy
  rcases List.mem_cons.mp hy with rfl | hy
  ·rfl
  rcases List.mem_cons.mp hy with rfl | hy
  ·rfl
  rcases List.mem_cons.mp hy with rfl | hy
  ·rfl
  cases hy
 generalize hL:s.heap.objs.size=L at *
 generalize henv:callEnv (fnOf name qual params (exBody q) exScope (.ref D) .none doc pm an cdv ct) L f=env
 have hloc:env.locals=L:=by rw [← henv];rfl
 have hk:env.scope.kind = .function:=by rw [← henv];rfl
 have ks:env.kindOf "self" = some .local:=by rw [← henv];rfl
 have km:env.kindOf "message" = some .local:=by rw [← henv];rfl
 have kp:env.kindOf "place" = some .local:=by rw [← henv];rfl
 have ke:env.kindOf "Exception" = some .globalImplicit:=by rw [← henv];rfl
 have hgl:env.globals=mainGlobals:=by rw [← henv];rfl
 have hbl:env.builtins=builtinsNs:=by rw [← henv];rfl
 have hi:interactive env=false:=by unfold interactive;rw [hk];rfl
 clear henv
 obtain⟨m,hns,m1,m2,m3⟩:∃ m:Str→Option Value,h₀.Ns L m∧m "self" = some (.ref x)∧m "message" = some msg∧m "place" = some u:=⟨_,hns,rfl,rfl,rfl⟩
 have F:Fr G.base L h₀ m:=⟨hns,λ b o e=>hkeep b o (base b o e),hL▸hsz⟩
 have X0:=G.hK.keeps F.keep
 have TR:=G.tr.keeps F.keep
 have hx0:=hkeep _ _ hx
 rw [← hloc] at hns
 unfold exBody
 rw [execs_cons]
 refine wpAny_bind ?_
 rw [exec_Expr env _ _ hi rfl]
 refine wpAny_bind (wpAny_standAt (wpAny_bind ?_))
 rw [arm_eval_Call,base_ok rfl]
 refine wpAny_bind (Name_function_global hk ke (loadGlobal_builtin (v:=.type "Exception") (by rw [hgl];exact TR.g) (mg_none_of G.hK G.tr.g Y.exn) (by rw [hbl];exact TR.b) ((TR.builtins "Exception" (by decide)).trans fx_boot) ?_) rfl)
 refine wpAny_bind (wpAny_standAt ?_)
 have hpos:methodCallPos true (.Name "Exception" (q 0)) env (q 1) (q 4)=pure (q 4):=by unfold methodCallPos;simp [i5]
 unfold methodCall
 show wpAny _ _ (holding _ (calleeOf true _ env _ _)>>=_) _ _ _
 refine wpAny_bind (wpAny_holding (method_type F G.hK fx_typ fx_stub (fx_cls G.K) fx_hand ?_))
 refine wpAny_bind (wpAny_of_eq hpos ?_)
 refine callWith_builtin rfl (evalArgs_plain ?_)
 show wpAny _ _ (spliced [(false,eval _ env),(false,eval _ env)]) _ _ _
 refine wpAny_bind (wpAny_Name (wpAny_loadName_local hk ks hns m1 ?_) rfl)
 refine wpAny_bind (wpAny_pure ?_)
 refine wpAny_bind (wpAny_holding ?_)
 refine wpAny_bind (wpAny_Name (wpAny_loadName_local hk km hns m2 ?_) rfl)
 refine wpAny_bind (wpAny_pure ?_)
 refine wpAny_bind (wpAny_holding ?_)
 refine wpAny_pure (wpAny_pure (wpAny_pure ?_))
 have hB:bm.contains (.type "Exception")=true:=tail_has (.inl rfl) htail
 have hC0:=hkeep _ _ (XK _ _ hC)
 refine wpAny_call (exc_base_init hB hC0 hx0 rfl λ h1 hx1 k1=>?_)
 refine wpAny_dropValue ?_
 have neL:∀ {b:Addr} {o:Obj},s.heap.get? b=some o→b≠L:=λ e=>by rw [← hL];exact Nat.ne_of_lt (Heap.lt_size e)
 have hxL:L≠x:=(neL hx).symm
 have nb0:∀ {b:Addr} {o:Obj},G.base.get? b=some o→b≠x:=λ e q=>by rw [q,nx] at e;cases e
 have X1:G.K.In h1:=G.hK.keeps λ b o e=>k1 b o (nb0 e) (hkeep b o (base b o e))
 have hns1:h1.Ns env.locals m:=hns.at' λ o e=>k1 _ o (by rw [hloc];exact hxL) e
 show wpAny _ _ (execs [_,_] env) _ _ _
 rw [execs_cons]
 refine wpAny_bind (set_step hk ks km rfl rfl hns1 m1 m2 ?_)
 refine exc_set0 X1 Y.over Y.set Y.fldM hx1 λ h2 tk2 hx2 hd2 k2=>?_
 have ndx:s.heap.get? h1.objs.size=none:=by
  cases hq:s.heap.get? h1.objs.size with
  | none=>rfl
  | some o=>
   have e1:=k1 _ o (Nat.ne_of_gt (Heap.lt_size hx1)) (hkeep _ _ hq)
   rw [get_size] at e1;cases e1
 have X2:G.K.In h2:=G.hK.keeps λ b o e=>k2 b o (nb0 e) (k1 b o (nb0 e) (hkeep b o (base b o e)))
 have hns2:h2.Ns env.locals m:=hns1.at' λ o e=>k2 _ o (by rw [hloc];exact hxL) e
 show wpAny _ _ (execs [_] env) _ _ _
 rw [execs_cons]
 refine wpAny_bind (set_step hk ks kp rfl rfl hns2 m1 m3 ?_)
 refine exc_set1 X2 Y.over Y.set Y.fldP hx2 hd2 rfl (Nat.le_of_ble_eq_true rfl) λ h3 tk3 hd3 k3=>?_
 show wpAny _ _ (execs [] env) _ _ _
 rw [execs_nil]
 refine wpAny_pure ?_
 have nxd:x≠h1.objs.size:=Nat.ne_of_lt (Heap.lt_size hx1)
 refine hR h3 _ h1.objs.size _ _ _ (k3 _ _ nxd hx2) ndx hd3 rfl (Nat.le_of_ble_eq_true rfl) rfl λ b o nb e=>?_
 have nbd:b≠h1.objs.size:=λ q=>by rw [q,ndx] at e;cases e
 exact k3 b o nbd (k2 b o nb (k1 b o nb (hkeep b o e)))
end
section
variable {M:Model} {A:Around} {env:Env} {E:Value→Shared→Prop}
variable {nm q:Str} {C N:Addr} {bs bm:List Value} {hdct:Bool} {sn:List Str} {sub:List Value} {ab:Bool} {col:Option Bool} {dd:Option Addr} {k0 k1 k2 k3 k5:Option Value}
theorem raise_rest {s:Shared} {xm:Sem Value} {Q:Flow→Shared→Prop} (hB:bm.contains (.type "BaseException")=true) (hh:A.handled=none)
  (h:wpAny M A xm (λ v s₁=>∃ x dx vs sl,v = .ref x∧s₁.heap.get? C=some (excClassObj nm q C N bs bm hdct sn sub ab col dd k0 k1 k2 k3 k5 "Exception.__new__") ∧
   s₁.heap.get? x=some ⟨.ref C,some dx,.fields vs,sl⟩∧vs[1]? = some .none∧E (.ref x) s₁) E s):
  wpAny M A (raiseStmt env (some xm) none) Q E s:=by
 unfold raiseStmt
 refine wpAny_bind (wpAny_mono h (λ v s₁ h₁=>?_) λ zz zz x=>x)
 obtain⟨x,dx,vs,sl,rfl,hC,hx,h1,hE⟩:=h₁
 obtain⟨hp,g,d,tk,os⟩:=s₁
 repeat (first | with_reducible refine wpAny_loadPart_at hx ?_ | with_reducible refine wpAny_loadPart_at hC ?_ | (with_reducible refine wpAny_isSubtype_exc hC ?_;rw [(by rw [List.contains_cons,hB,Bool.or_true]:(Value.ref C :: bm).contains (.type "BaseException")=true)]) | with_reducible refine wpAny_field hx rfl h1 ?_ | wp_step)
 exact wpAny_raiseNew_none hh hE
end
noncomputable def makeA (T:Tb):AV→List AV→PM AV
 | .val C,[.str zz,p]=>if C=T.exc then pure p else PM.fail
 | zz,zy=>PM.fail
theorem two_cases {m:AV→AV→Nat→PM AV} {P:AV→List AV→PM AV→Prop} (hf:∀ {a l},P a l PM.fail) (h:∀ C x p,P (.val C) [.str x,p] (m (.str x) p C)):∀ a l,P a l (match a,l with | .val C,[.str x,p]=>m (.str x) p C | zz,zy=>PM.fail):=by
 intro a l
 cases a with
 | val C=>
  refine list2 l hf (λ v=>?_) (λ v p=>?_) λ v zz zz zz=>?_
  ·cases v<;>exact hf
  ·cases v<;>first | exact hf | exact h _ _ _
  ·cases v<;>exact hf
 | _=>exact hf
theorem makeA_is {T:Tb} {fa:AV} {vs:List AV} {σ:AH} {r:Except AV AV} {σ':AH} (e:makeA T fa vs σ=some (r,σ')):∃ x p,fa = .val T.exc∧vs=[.str x,p]∧r = .ok p∧σ=σ':=by
 refine two_cases (m:=λ x p C=>if C=T.exc then pure p else PM.fail) (P:=λ a l m=>m σ=some (r,σ')→∃ x p,a = .val T.exc∧l=[.str x,p]∧r = .ok p∧σ=σ') (λ e=>no_none e) (λ C x p e0=>?_) fa vs e
 clear e
 obtain⟨hC,e⟩:=of_guard (show (if C=T.exc then pure p else PM.fail:PM AV) σ=some (r,σ') from e0)
 clear e0
 subst hC
 cases e
 exact⟨x,p,rfl,rfl,rfl,rfl⟩
theorem raiseA_eq {T:Tb} {cv:AV} {vs:List AV} {σ:AH} {r:Except AV AV} {σ':AH} (e:raiseA T cv vs σ=some (r,σ')):∃ p,r = .error p∧makeA T cv vs σ=some (.ok p,σ'):=by
 refine two_cases (m:=λ x p C=>if C=T.exc then PM.throw p else PM.fail) (P:=λ a l m=>m σ=some (r,σ')→∃ p,r = .error p∧makeA T a l σ=some (.ok p,σ')) (λ e=>no_none e) (λ C x p e0=>?_) cv vs e
 clear e
 obtain⟨hC,e⟩:=of_guard (show (if C=T.exc then PM.throw p else PM.fail:PM AV) σ=some (r,σ') from e0)
 clear e0
 subst hC
 cases e
 exact⟨p,rfl,congrFun (if_pos rfl) σ⟩
section
variable {G:Gd} {A:Around} {fr:List Addr} {d:Nat} {env:Env}
noncomputable def Born (G:Gd) (h₀:Heap) (p:AV) (v:Value) (ι:Img) (h:Heap):Prop:=
 ∃ x dx vs es n u,v = .ref x∧h₀.get? x=none∧h.get? x=some ⟨.ref G.T.exc,some dx,.fields vs,#[]⟩∧h₀.get? dx=none∧h.get? dx=some (dictOf es n)∧W.getL (nm "place") es=some (some u)∧RepV G ι h p u∧2≤vs.size∧vs[1]? = some .none
theorem exc_make (K:Gok G) (Y:Exk G) (H:At A fr d) {h₀:Heap} (fa:AV) (fv:Value) (vs:List AV) (ws:List Value):
  Snd G A fr (λ ι h=>RepV G ι h fa fv∧(∀ b o,h₀.get? b=some o→∃ o',h.get? b=some o')∧RepVs G ι h vs ws) (PySem.call fv ws) (makeA G.T fa vs) (λ p v ι h=>Born G h₀ p v ι h):=by
 intro ι σ s r σ' ht I hp e
 obtain⟨hf,hal,hr⟩:=hp
 refine ex24 (makeA_is e) λ y p rr2 rr3 rr4 rr5=>?_
 subst rr2
 subst rr3
 subst rr4
 subst rr5
 obtain⟨rfl,-⟩:=hf
 clear e
 obtain⟨w1,ws,rfl,r1,hr⟩:=repsC hr
 obtain⟨w2,ws,rfl,r2,hr⟩:=repsC hr
 cases ws with
 | cons=>exact False.elim hr
 | nil=>
 clear ht r1 hr
 clear hr
 obtain⟨nm',q',N,bs,bm,hdct,sn,sub,ab,col,dd,k0,k1,k2,k3,k5,hC,htail⟩:=Y.obj
 clear hr
 obtain⟨f,oc,od,osl,name,qual,params,q,doc,pm,an,cdv,ct,D,oD,dv,n,i1,i2,i3,i4,i5,i6,i7,i8,i9,i10,i11,i12⟩:=Y.ini
 have XK:G.K.In s.heap:=G.hK.keeps I.base
 have hd:=H.depth
 obtain⟨hh,gens,dr,t,os⟩:=s
 have kp:∀ b o,hh.get? b=some o→((hh.push (tupObj [w1,w2])).push (excObj G.T.exc hh.objs.size)).get? b=some o:=λ b o q=>Heap.get?_push_of_some _ (Heap.get?_push_of_some _ q)
 have nx:hh.get? (hh.objs.size + 1)=none:=Heap.get?_none_of_le (Nat.le_succ _)
 have gone:∀ b,hh.get? b=none→h₀.get? b=none:=λ b e=>by
  cases q:h₀.get? b with
  | none=>rfl
  | some o=>obtain⟨o',e'⟩:=hal b o q;rw [e] at e';cases e'
 refine wpAny_call (exc_core (tail_has (.inl rfl) htail) (tail_no (by decide) (by decide) (by decide) htail) (tail_no (by decide) (by decide) (by decide) htail) (by show 2≤sizeLine;rw [sizeLine_eq];decide) (XK _ _ hC) (looks_specialIn XK Y.call) (looks_instIn XK Y.typ) (looks_findIn XK i1) (λ self=>bind_fn XK self i2) ?_)
 refine exc_init (s:=⟨(hh.push (tupObj [w1,w2])).push (excObj G.T.exc hh.objs.size),gens,dr,t,os⟩) K Y ?_ (λ b o e=>kp b o (I.base b o e)) ?_ i3 i4 i5 i6 i7 i8 i9 i10 i11 i12 (by heap_get) (Heap.get?_none_of_le (Nat.le_succ_of_le I.size)) λ h' tk dx es n' vs hx2 ndx hd2 hpl hz hv hk=>?_
 ·show A.depth + 1 < recursionLimit
  lia
 ·show G.base.objs.size≤((hh.push (tupObj [w1,w2])).push (excObj G.T.exc hh.objs.size)).objs.size
  refine rwg (Heap.size_push ..) ?_
  refine rwg (Heap.size_push ..) ?_
  exact Nat.le_succ_of_le (Nat.le_succ_of_le I.size)
 ·have hk':∀ b o,hh.get? b=some o→h'.get? b=some o:=λ b o e=>hk b o (λ q=>by rw [q,nx] at e;cases e) (kp b o e)
  have I':=(I.keeps H.ne (.of hk')).1
  have S:=(I.keeps H.ne (.of hk')).2
  refine⟨rfl,_,rfl,h',tk,ι,rfl,S,I',_,dx,vs,es,n',w2,rfl,gone _ nx,hx2,gone _ ?_,hd2,hpl,RepV.step I S mildNo _ _ r2,hz,hv⟩
  cases q:hh.get? dx with
  | none=>rfl
  | some o=>have:=kp _ _ q;rw [show ((⟨(hh.push (tupObj [w1,w2])).push (excObj G.T.exc hh.objs.size),gens,dr,t,os⟩:Shared)).heap.get? dx=none from ndx] at this;cases this
end
section
variable {G:Gd} {A:Around} {fr:List Addr} {d:Nat} {env:Env}
noncomputable def Alive (h₀:Heap) (_:Img) (h:Heap):Prop:=∀ b o,h₀.get? b=some o→∃ o',h.get? b=some o'
theorem Pers.alive {h₀:Heap}:Pers G fr (Alive h₀):=λ zz zz zz zz zz zz S q b o e=>let ⟨o',e'⟩:=q b o e;S.alive b o' e'
theorem go_ok {α β:Type} {m:PM α} {f:α→PM β} {σ σ₁:AH} {a:α} {r:Option (Except AV β×AH)} (h:m σ=some (.ok a,σ₁)) (h2:f a σ₁=r):(m>>=f) σ=r:=by
 show PM.andThen m f σ=r
 unfold PM.andThen;rw [h];exact h2
theorem go_er {α β:Type} {m:PM α} {f:α→PM β} {σ σ₁:AH} {p:AV} (h:m σ=some (.error p,σ₁)):(m>>=f) σ=some (.error p,σ₁):=by
 show PM.andThen m f σ=_
 unfold PM.andThen;rw [h]
theorem ra_ok (K:Gok G) (Y:Exk G) (H:At A fr d) {X:Cx} (C:CallOk G A fr X):RaOk G A fr X:=by
 intro n sc lc env c args p1 pos N F ι σ s r σ' ht I L e hpl hcn
 have one:∀ e,Snd G A fr (Loc G env lc) (eval e env) (evE X n sc lc e) (RV G):=λ e=>(ev_snd K H C n sc lc e env N).1
 obtain⟨nm',q',N',bs,bm,hdct,sn,sub,ab,col,dd,k0,k1,k2,k3,k5,hC,htail⟩:=Y.obj
 have T:Snd G A fr (λ ι h=>Loc G env lc ι h∧Alive s.heap ι h) (eval (.Call c args [] p1) env) (evE X n sc lc c>>=λ cv=>seqA (args.map λ v=>evE X n sc lc v)>>=λ vs=>makeA X.T cv vs) (Born G s.heap):=by
  rw [eval_call_other hcn]
  refine Snd.bind (Pers.loc.and Pers.alive) ((one c).pre λ zz zz q=>q.1) λ fa fv=>?_
  have hP':Pers G fr (λ ι h=>(Loc G env lc ι h∧Alive s.heap ι h)∧RV G fa fv ι h):=(Pers.loc.and Pers.alive).and (Pers.rep fa fv)
  intro ι σ s1 r σ' ht I hp e
  have hfv:RepV G ι s1.heap fa fv:=hp.2
  refine callWith_snd hP' (m:=seqA (args.map λ v=>evE X n sc lc v)) (g:=λ vs=>makeA X.T fa vs) hpl ((splice_snd Pers.loc (λ v=>evE X n sc lc v) λ v zz=>one v).pre λ zz zz q=>q.1.1) (λ vs σ r e=>?_) (λ vs ws=>?_) ι σ s1 r σ' ht I hp e
  ·obtain⟨_,_,hf,_⟩:=makeA_is e
   clear H K hP' one hp hcn hpl e L I ht F N pos p1 env htail hC k5 k3 k2 k1 k0 dd col ab sub sn hdct bm bs N' q' nm'
   subst hf
   rw [hfv.1,C.tab]
   exact KeepOk.ref Y.keep
  ·rw [C.tab]
   exact (exc_make K Y H fa fv vs ws).pre λ zz zz q=>⟨q.1.2,q.1.1.2,q.2⟩
 have key:∃ r' p,(evE X n sc lc c>>=λ cv=>seqA (args.map λ v=>evE X n sc lc v)>>=λ vs=>makeA X.T cv vs) σ=some (r',σ')∧r = .error p∧(r' = .ok p∨r' = .error p):=by
  rcases andThen_cases e with ⟨p,q1,rfl⟩ | ⟨cv,σ1,q1,q2⟩
  ·exact⟨.error p,p,go_er q1,rfl,.inr rfl⟩
  rcases andThen_cases q2 with ⟨p,q3,rfl⟩ | ⟨vs,σ2,q3,q4⟩
  ·exact⟨.error p,p,go_ok q1 (go_er q3),rfl,.inr rfl⟩
  ·obtain⟨p,h1,h2⟩:=raiseA_eq q4
   exact⟨.ok p,p,go_ok q1 (go_ok q3 h2),h1,.inl rfl⟩
 obtain⟨r',p,e',rfl,hrp⟩:=key
 rw [arm_exec_Raise]
 refine wpAny_bind (wpAny_standAt ?_)
 show wpAny _ _ (raiseStmt env (some (do let v ← eval (.Call c args [] p1) env;standAt pos;pure v)) none) _ _ _
 refine raise_rest (tail_has (.inr (.inl rfl)) htail) H.handled (C:=G.T.exc) (nm:=nm') (q:=q') (N:=N') (bs:=bs) (bm:=bm) (hdct:=hdct) (sn:=sn) (sub:=sub) (ab:=ab) (col:=col) (dd:=dd) (k0:=k0) (k1:=k1) (k2:=k2) (k3:=k3) (k5:=k5) (wpAny_bind ?_)
 refine wpAny_mono (T ι σ s r' σ' ht I ⟨L,λ b o e=>⟨o,e⟩⟩ e') ?_ ?_
 ·rintro v s1 ⟨b,hr,h1,tk1,ι1,rfl,S1,I1,x,dx,vs,es,n',u,rfl,nx,hx,ndx,hd,hpl',ru,hz,hv⟩
  refine wpAny_bind (wpAny_standAt (wpAny_pure ⟨x,dx,vs,#[],rfl,G.hK.keeps I1.base _ _ hC,hx,hv,?_⟩))
  have hb:b=p:=by
   rcases hrp with q | q
   ·rw [q] at hr;cases hr;rfl
   ·rw [q] at hr;cases hr
  clear C H Y K T one hr hcn hpl e L I ht F N pos p1 hrp e' r' htail hC k5 k3 k2 k1 k0 dd col ab sub sn hdct bm bs N' q' nm' X σ args c lc sc n
  subst hb
  exact⟨b,rfl,h1,tk1,ι1,x,rfl,rfl,nowW S1,I1,nx,dx,vs,es,n',_,u,hx,ndx,hd,hpl',ru,hz,.inl ⟨hv,rfl⟩⟩
 ·rintro x s1 ⟨p',hr,o⟩
  have hb:p'=p:=by
   rcases hrp with q | q
   ·rw [q] at hr;cases hr
   ·rw [q] at hr;cases hr;rfl
  subst hb
  exact⟨p',rfl,o.toW⟩
end
section
variable {G:Gd} {A:Around} {fr:List Addr} {d:Nat} {env:Env}
theorem away_local (H:At A fr d) (F:Fn G env fr) {ι:Img} {σ:AH} {h h':Heap} {m:Str→Option Value} (I:Inv G fr ι σ h) (hn:h'.Ns env.locals m) (hs:Heap.SameBut env.locals h h'):Inv G fr ι σ h'∧Step (λ b=>b=env.locals) fr ι ι h h'∧Mild (λ b=>b=env.locals) h:=by
 refine Exists.elim (F.loc) λ r hfr=>?_
 have hmem:env.locals∈fr:=by rw [hfr];exact .head _
 obtain⟨⟨m0,hm0⟩,ho,hb⟩:=I.frames _ hmem
 have mi:Mild (λ b=>b=env.locals) h:=λ b o e w=>by subst w;exact nsMild hm0 o e
 obtain⟨I',S⟩:=I.away (W:=λ b=>b=env.locals) H.ne (h':=h') (λ b q=>by subst q;exact Heap.get?_none_of_le hb) (λ b q=>q▸ho) mi (λ b o w zz e=>(hs.2 b w).trans e) (λ b zz w m e=>e.sameBut hs w) (λ b zz w=>w▸⟨_,hn⟩)
  (λ b o w zz=>by obtain⟨o',_,_,e',_⟩:=hn;exact⟨o',w▸e'⟩)
 exact⟨I',S,mi⟩
theorem tr_ok (K:Gok G) (Y:Exk G) (H:At A fr d) {X:Cx} (C:CallOk G A fr X):TrOk G A fr X:=by
 intro n sc lc k env e c x p1 p2 p3 p4 p5 p6 pos N F ι σ s r σ' ht I L hx hc hg hnc htry
 obtain⟨nm',q',N',bs,bm,hdct,sn,sub,ab,col,dd,k0,k1,k2,k3,k5,hC,htail⟩:=Y.obj
 have hi:interactive env=false:=by unfold interactive;rw [N.kind];rfl
 have hp:(env.scope.kind == .class || (env.scope.kind == .module && env.locals != env.globals))=false:=by rw [N.kind];rfl
 have one:=(ev_snd K H C n sc lc e env N).1
 rw [C.tab] at hg
 refine ex22 (N.frame) λ L0 r0 hfr hfL=>?_
 obtain⟨rq,hfr'⟩:=F.loc
 have hmem:env.locals∈fr:=by rw [hfr'];exact .head _
 refine wpAny_Try_except ?_
 refine rwg (execs_cons ..) ?_
 refine rwg (exec_Expr env e p1 hi (notComp_swaps hnc none p1.line env) ..) ?_
 refine wpAny_bind (wpAny_bind (wpAny_standAt (wpAny_bind ?_)))
 unfold tryA at htry
 cases hm:evE X n sc lc e σ with
 | none=>rw [hm] at htry;cases htry
 | some z=>
  obtain⟨z,σ1⟩:=z
  rw [hm] at htry
  cases z with
  | ok v=>
   refine wpAny_mono (one ι σ s _ _ ht I L hm) ?_ ?_
   ·rintro u s1 ⟨b,z,h1,tk1,ι1,rfl,S1,I1,hu⟩
    refine wpAny_dropValue ?_
    show wpAny _ _ (execs [] env) _ _ _
    rw [execs_nil]
    refine wpAny_pure ?_
    show wpAny _ _ (execs [] env) _ _ _
    rw [execs_nil]
    exact wpAny_pure ⟨lc,h1,tk1,ι1,σ1,rfl,nowW S1,I1,Pers.loc _ _ _ _ _ I S1 L,htry⟩
   ·exact λ zz zz q=>q.no
  | error p=>
   cases htry
   refine wpAny_mono (one ι σ s _ _ ht I L hm) ?_ ?_
   ·exact λ zz zz q=>q.no
   rintro ev s1 ⟨p',z,h1,tk1,ι1,x0,rfl,rfl,S1,I1,F1⟩
   cases z
   refine note_wp (W:=Wst env) (s:={ s with heap:=h1,toks:=tk1 }) H hfL hfr I (nowW S1) I1 F1 λ h2 S2 I2 F2=>?_
   refine flight_wp (s:={ s with heap:=h2,toks:=tk1 }) H I S2 I2 F2 λ h3 S3 I3 F3=>?_
   have XK:G.K.In h3:=G.hK.keeps I3.base
   have TR:=G.tr.keeps I3.base
   obtain⟨dx,vs,es,nn,sl,u,e1,-⟩:=F3.there
   refine wpAny_handleBy_cons (codeAny_handlers_test ?_) (by intro q;cases q)
   have dn:=scOk_name N.ok hc
   rcases K.glob c _ hg with ⟨g1,h4,h5⟩ | ⟨_,_,b,h4,_⟩
   case inr=>cases h4
   obtain⟨rfl,-⟩:=h5
   refine Name_function_global N.kind (N.gl c hc) (loadGlobal_global (by rw [N.glob];exact TR.g) (mg_of G.hK G.tr.g h4) ?_) dn.1
   refine wpAny_excMatches_sub_self (XK _ _ hC) e1 rfl (tail_has (.inr (.inl rfl)) htail) ?_
   show codeAny _ _ (.handlers (.ref x0) [.ExceptHandler none (some x) _ p6] env) _ _
   refine codeAny_handlers_suite_as ?_
   refine flight_wp (s:={ s with heap:=h3,toks:=tk1 }) H I S3 I3 F3 λ h4 S4 I4 F4=>?_
   obtain⟨⟨m,hm4⟩,-,-⟩:=I4.frames _ hmem
   refine wpAny_storeName_local (N.loc x hx) hm4 (λ h5 hn5 hs5=>?_) hp
   refine ex03 (away_local H F I4 hn5 hs5) λ I5 S5 mi=>?_
   obtain⟨dx,vs,es,nn,sl,u,e1,e2,e3,e4,e5,e6,-⟩:=F4.there
   have nx0:x0≠env.locals:=λ q=>by
    refine ex32 (I.frame hmem) λ o zz zz ho zz=>?_
    have:=F4.new
    rw [q,ho] at this;cases this
   have ndx:dx≠env.locals:=λ q=>by
    refine ex32 (I.frame hmem) λ o zz zz ho zz=>?_
    rw [q,ho] at e2;cases e2
   have f1:=(hs5.2 x0 nx0).trans e1
   have f3:=(hs5.2 dx ndx).trans e3
   have ru:=RepV.step I4 S5 mi _ _ e5
   refine rwg (execs_cons ..) ?_
   refine wpAny_bind (wpAny_Return_some ?_)
   rw [arm_eval_Attribute]
   refine rwg (show attributeBase (.Name x p3) (nm "place") env (eval (.Name x p3) env)=eval (.Name x p3) env from rfl ..) ?_
   refine wpAny_bind (wpAny_Name (wpAny_loadName_local N.kind (N.loc x hx) hn5 (if_pos rfl) ?_) (scOk_name N.ok hx).1)
   refine wpAny_bind (wpAny_standAt (wpAny_bind (wpAny_holding ?_)))
   refine exc_get (G.hK.keeps I5.base) Y.over Y.get Y.noGet Y.noPlace f1 f3 e4 (handed_rep e5) ?_
   refine rwg (show letTemporaryGo (.Name x p3) (.ref x0) u=pure () from rfl ..) ?_
   refine wpAny_bind (wpAny_pure (wpAny_pure ?_))
   refine wpAny_pure ?_
   refine wpAny_nameGoes (N.loc x hx) hn5 hp λ h6 m6 hn6 hs6=>?_
   refine ex03 (away_local H F I5 hn6 hs6) λ I6 S6 mi6=>?_
   exact⟨p,rfl,h6,_,ι1,rfl,(S4.trans (S5.wide λ b q=>.inl q)).trans (S6.wide λ b q=>.inl q),I6,RepV.step I5 S6 mi6 _ _ ru⟩
end
theorem calls_ok {G:Gd} (K:Gok G) (Y:Exk G) (fuel:Nat):∀ d,CodeOk G fuel d:=code_ok K fuel λ zz zz zz zz H C=>⟨ra_ok K Y H C,tr_ok K Y H C⟩
noncomputable def fdOf:Data→Option FuncData
 | .func fd=>some fd
 | _=>none
noncomputable def fdAt (K:Frag) (a:Nat):Option FuncData:=(K.lookup a).bind λ o=>fdOf o.data
noncomputable abbrev FShape:=(List Arg×Option Arg×List Arg×List (Option Expr)×Option Arg×List Expr)×(Addr×List (Str×Addr)×Value×Value×Addr)×Bool×FuncBody×Scope×List Str
noncomputable def shapeOf (K:Frag) (fd:FuncData):FShape:=
 ((fd.params.posonlyargs,fd.params.vararg,fd.params.kwonlyargs,fd.params.kw_defaults,fd.params.kwarg,fd.params.defaults),(fd.globals,fd.closure,fd.defaults,fd.kwdefaults,fd.builtins),codeIn K fd.code fd.qualname,fd.body,fd.scope,fd.params.args.map (·.arg))
noncomputable def fnT (K:Frag) (a:Nat):Option FShape:=(fdAt K a).map (shapeOf K)
noncomputable def fnS (q:List Str×List Stmt×Scope):FShape:=(([],none,[],[],none,[]),(3,[],.none,.none,builtinsNs),true,.stmts q.2.1,q.2.2,q.1)
theorem fdAt_at {K:Frag} {a:Nat} {fd:FuncData} (e:fdAt K a=some fd):∃ oc od osl,K.lookup a=some ⟨oc,od,.func fd,osl⟩:=by
 obtain⟨⟨oc,od,dt,osl⟩,h1,h2⟩:=Option.bind_eq_some_iff.mp e
 cases dt<;>cases h2
 exact⟨_,_,_,h1⟩
theorem fnT_at {K:Frag} {a:Nat} {q:List Str×List Stmt×Scope} (e:fnT K a=some (fnS q)):FnK K a q.1 q.2.1 q.2.2∧keepIn K (.ref a)=true:=by
 obtain⟨⟨nm,qual,⟨_,as,_,_,_,_,_⟩,_,_,_,_,_,_,doc,pm,an,cdv,ct,_⟩,h1,h2⟩:=Option.map_eq_some_iff.mp e
 refine ex31 (fdAt_at h1) λ oc od osl h=>?_
 clear e h1
 obtain⟨ps,body,sc⟩:=q
 simp only [shapeOf,fnS,Prod.mk.injEq] at h2
 obtain⟨⟨rfl,rfl,rfl,rfl,rfl,rfl⟩,⟨rfl,rfl,rfl,rfl,rfl⟩,hc,rfl,rfl,rfl⟩:=h2
 refine⟨⟨oc,od,osl,_,_,_,_,_,_,_,_,h,hc,rfl,rfl⟩,?_⟩
 unfold keepIn
 simp only [h]
noncomputable def refOf:Option (Option Value)→Option Nat
 | some (some (.ref f))=>some f
 | _=>none
theorem refOf_at {o:Option (Option Value)} {f:Nat} (e:refOf o=some f):o=some (some (.ref f)):=by
 cases o with
 | none=>cases e
 | some o=>cases o with
  | none=>cases e
  | some v=>cases v with
   | ref a=>exact Option.some.inj e▸rfl
   | _=>cases e
theorem gif_at {α:Type} {c:Prop} [Decidable c] {x:Option α} {y:α} (e:(if c then x else none)=some y):c∧x=some y:=by
 by_cases h:c
 ·exact⟨h,(if_pos h).symm.trans e⟩
 ·exact no_none ((if_neg h).symm.trans e)
noncomputable def iniT (K:Frag) (C:Nat):Option Nat:=(refOf (findIn K (.ref C) "__init__")).bind λ f=>if makesIn K C=true∧typeIn K (.ref f) == some (.type "function")∧keepIn K (.ref C)=true then some f else none
theorem iniT_at {K:Frag} {C f:Nat} (e:iniT K C=some f):makesIn K C=true∧findIn K (.ref C) "__init__" = some (some (.ref f))∧typeIn K (.ref f)=some (.type "function")∧keepIn K (.ref C)=true:=by
 obtain⟨f',h1,h2⟩:=Option.bind_eq_some_iff.mp e
 obtain⟨hc,h3⟩:=gif_at h2
 cases h3
 exact⟨hc.1,refOf_at h1,beq_iff_eq.mp hc.2.1,hc.2.2⟩
noncomputable def fldT (K:Frag) (C:Nat) (x:Str):Bool:=plainGet K C x && hasDictIn K C && findIn K (.ref C) x == some none && findIn K (.ref C) "__setattr__" == some (some (.builtin "object.__setattr__")) && plainOver K C
theorem fldT_at {K:Frag} {C:Nat} {x:Str} (e:fldT K C x=true):plainGet K C x=true∧hasDictIn K C=true∧findIn K (.ref C) x=some none∧findIn K (.ref C) "__setattr__" = some (some (.builtin "object.__setattr__"))∧plainOver K C=true∧takerIn K C x=some none:=by
 unfold fldT at e
 simp only [Bool.and_eq_true,beq_iff_eq] at e
 obtain⟨⟨⟨⟨a,b⟩,c⟩,d⟩,f⟩:=e
 exact⟨a,b,c,d,f,by unfold takerIn;rw [c];rfl⟩
noncomputable def methT (K:Frag) (C:Nat) (x:Str):Option Nat:=(refOf (findIn K (.ref C) x)).bind λ f=>if plainGet K C x=true∧isFn K (.ref f)=true then some f else none
theorem methT_at {K:Frag} {C f:Nat} {x:Str} (e:methT K C x=some f):plainGet K C x=true∧findIn K (.ref C) x=some (some (.ref f))∧isFn K (.ref f)=true:=by
 obtain⟨f',h1,h2⟩:=Option.bind_eq_some_iff.mp e
 obtain⟨hc,h3⟩:=gif_at h2
 cases h3
 exact⟨hc.1,refOf_at h1,hc.2⟩
noncomputable def instT (K:Frag) (Cs:List Nat):Bool:=Cs.all λ C=>(Cs.all λ D=>kitOne K (.ref D) (.ref C) == some (decide (D=C))) && plainGet K C "__class__" && hasDictIn K C && findIn K (.ref C) "__class__" == some (some (.builtin "object.__class__")) && mroIn K C (.type "object") == some true
theorem instT_at {K:Frag} {Cs:List Nat} (e:instT K Cs=true):(∀ C D,C∈Cs→D∈Cs→kitOne K (.ref D) (.ref C)=some (decide (D=C))) ∧
  ∀ D,D∈Cs→plainGet K D "__class__" = true∧hasDictIn K D=true∧findIn K (.ref D) "__class__" = some (some (.builtin "object.__class__"))∧mroIn K D (.type "object")=some true:=by
 unfold instT at e
 simp only [List.all_eq_true,Bool.and_eq_true,beq_iff_eq] at e
 exact⟨λ C D hC hD=>(e C hC).1.1.1.1 D hD,λ D hD=>⟨(e D hD).1.1.1.2,(e D hD).1.1.2,(e D hD).1.2,(e D hD).2⟩⟩
noncomputable def strAV:Value→Option AV
 | .str x zz=>if x.cps.size≤maxLen then some (.str x.cps.toList) else none
 | _=>none
noncomputable def tupStrs:List Value→Option (List AV)
 | []=>some []
 | v :: r=>(strAV v).bind λ a=>(tupStrs r).map (a :: ·)
noncomputable def clsT:Value→Option String
 | .type t=>some t
 | _=>none
noncomputable def seqD:Data→Option (Array Value×Nat)
 | .seq items n=>some (items,n)
 | _=>none
noncomputable def tupOf (o:Obj):Option (Array Value):=(clsT o.cls).bind λ t=>(seqD o.data).bind λ p=>if t = "tuple"∧p.1.size≤1000 then some p.1 else none
noncomputable def objT (a:Nat) (o:Obj):Option AV:=match tupOf o with
 | some items=>(tupStrs items.toList).map .tup
 | none=>some (.val a)
noncomputable def valT (K:Frag):Value→Option AV
 | .int i zz=>some (.int i)
 | .ref a=>(K.lookup a).bind (objT a)
 | v=>strAV v
theorem strAV_at {G:Gd} {v:Value} {a:AV} (e:strAV v=some a):RepV G [] G.base a v:=by
 cases v with
 | str x t=>
  obtain⟨hz,h⟩:=gif_at e
  cases h
  exact⟨hz,t,rfl⟩
 | _=>cases e
theorem tupStrs_at {G:Gd}:∀ {l:List Value} {as:List AV},tupStrs l=some as→RepVs G [] G.base as l∧as.length=l.length
 | [],as,e=>by cases e;exact⟨trivial,rfl⟩
 | v :: r,as,e=>by
  obtain⟨a,h1,h2⟩:=Option.bind_eq_some_iff.mp e
  obtain⟨as',h,rfl⟩:=Option.map_eq_some_iff.mp h2
  obtain⟨h3,h4⟩:=tupStrs_at (G:=G) h
  exact⟨⟨strAV_at h1,h3⟩,congrArg Nat.succ h4⟩
theorem clsT_at {c:Value} {t:String} (e:clsT c=some t):c = .type t:=by
 cases c with
 | type t'=>exact congrArg Value.type (Option.some.inj e)
 | _=>exact no_none e
theorem seqD_at {dt:Data} {p:Array Value×Nat} (e:seqD dt=some p):dt = .seq p.1 p.2:=by
 cases dt with
 | seq items n=>exact Option.some.inj e▸rfl
 | _=>exact no_none e
theorem tupOf_at {o:Obj} {items:Array Value} (e:tupOf o=some items):o.cls = .type "tuple"∧(∃ n,o.data = .seq items n)∧items.size≤1000:=by
 obtain⟨t,h1,h2⟩:=Option.bind_eq_some_iff.mp e
 obtain⟨p,h3,h4⟩:=Option.bind_eq_some_iff.mp h2
 obtain⟨hc,h5⟩:=gif_at h4
 cases h5
 exact⟨(clsT_at h1).trans (congrArg Value.type hc.1),⟨_,seqD_at h3⟩,hc.2⟩
theorem valT_at {G:Gd} {v:Value} {a:AV} (e:valT G.K v=some a):RepV G [] G.base a v:=by
 cases v with
 | int i t=>cases e;exact⟨_,rfl⟩
 | ref b=>
  obtain⟨o,h1,h2⟩:=Option.bind_eq_some_iff.mp e
  unfold objT at h2
  cases ht:tupOf o with
  | none=>rw [ht] at h2;cases h2;exact⟨rfl,by rw [h1];rfl⟩
  | some items=>
   rw [ht] at h2
   obtain⟨as,h3,rfl⟩:=Option.map_eq_some_iff.mp h2
   obtain⟨h4,h5⟩:=tupStrs_at (G:=G) h3
   obtain⟨g1,⟨n,g2⟩,g3⟩:=tupOf_at ht
   exact⟨b,items.toList,rfl,⟨o,G.hK _ _ h1,g1,n,g2⟩,h4,h5▸Nat.le_trans g3 (Nat.le_of_ble_eq_true rfl)⟩
 | _=>exact strAV_at e
structure Tab (K:Frag) (T:Tb):Prop where
 glob:∀ x v,T.glob x=some v→(∃ u,nsIn K mainGlobals x=some (some u)∧valT K u=some v)∨(nsIn K mainGlobals x=some none∧x≠"__name__"∧∃ b,v = .bi b∧bootBuiltins x=some b.toV)
 fn:∀ a q,T.fn a=some q→fnT K a=some (fnS q)
 ini:∀ C f,T.ini C=some f→iniT K C=some f∧T.fn C=none
 fld:∀ C x,T.fld C x=true→fldT K C x=true
 meth:∀ C x f,T.meth C x=some f→methT K C x=some f
 inst:∃ Cs,instT K Cs=true∧∀ C,T.inst C=true→C∈Cs
theorem Tab.ok {G:Gd} (t:Tab G.K G.T) (lim:G.base.NoLimit) (kcls:specialIn G.K (.builtin "object.__class__") "__get__" = some (some (.builtin "getset_descriptor.__get__"))∧takesIn G.K (.builtin "object.__class__")=some true)
  (bis:kitOne G.K (.type "str") (.type "str")=some true∧kitOne G.K (.type "str") (.type "list")=some false∧kitOne G.K (.type "list") (.type "str")=some false∧kitOne G.K (.type "list") (.type "list")=some true):Gok G where
 lim:=lim
 glob:=λ x v e=>by
  rcases t.glob x v e with ⟨u,h1,h2⟩ | h
  ·exact .inl ⟨u,h1,valT_at h2⟩
  ·exact .inr h
 fn:=λ a ps body sc e=>(fnT_at (q:=(ps,body,sc)) (t.fn a _ e)).1
 ini:=λ C f e=>by
  have h1:=(t.ini C f e).1
  have h2:=(t.ini C f e).2
  refine ex04 (iniT_at h1) λ a b c zz=>?_
  exact⟨a,b,c,h2⟩
 fld:=λ C x e=>fldT_at (t.fld C x e)
 meth:=λ C x f e=>methT_at (t.meth C x f e)
 inst:=λ C D h1 h2=>by
  refine ex12 (t.inst) λ Cs h hm=>?_
  exact (instT_at h).1 C D (hm C h1) (hm D h2)
 instX:=λ D h1=>by
  refine ex12 (t.inst) λ Cs h hm=>?_
  exact (instT_at h).2 D (hm D h1)
 kcls:=kcls
 bis:=bis
 live:=λ a ps e=>(fnT_at (t.fn a ps e)).2
 liveC:=λ a f e=>(iniT_at (t.ini a f e).1).2.2.2
end
section
open PySem PySem.W
noncomputable abbrev Def:=List Str×List Stmt×Scope
noncomputable def topB:List Stmt:=PySem.Challenge.pw_og0028_01.main.body
noncomputable def defAt (i:Nat):Option Def:=match topB[i]? with
 | some (.FunctionDef zz args body zy zx zw scope zv zu zt)=>some (args.args.map (·.arg),body,scope)
 | _=>none
noncomputable def mAt (i:Nat) (m:Str):Option Def:=match topB[i]? with
 | some (.ClassDef zz zy zx body zw zv zu zt zs zr zq)=>body.findSome? λ
  | .FunctionDef n args b zz zy zx scope zw zv zu=>if n=m then some (args.args.map (·.arg),b,scope) else none
  | _=>none
 | _=>none
noncomputable def fnL:List (Nat×Option Def):=[
 (35,mAt 2 (nm "__init__")),
 (77,mAt 3 (nm "__init__")),
 (119,mAt 4 (nm "__init__")),
 (159,mAt 5 (nm "__init__")),
 (201,mAt 6 (nm "__init__")),
 (239,mAt 7 (nm "__init__")),
 (260,mAt 8 (nm "__init__")),
 (300,mAt 9 (nm "__init__")),
 (340,mAt 10 (nm "__init__")),
 (414,mAt 20 (nm "__init__")),
 (435,mAt 21 (nm "__init__")),
 (456,mAt 22 (nm "__init__")),
 (477,mAt 23 (nm "__init__")),
 (498,mAt 24 (nm "__init__")),
 (510,defAt 25),
 (524,mAt 26 (nm "__init__")),
 (531,mAt 26 (nm "place")),
 (538,mAt 26 (nm "refuse")),
 (545,mAt 26 (nm "pass_blanks")),
 (552,mAt 26 (nm "word")),
 (559,mAt 26 (nm "quoted")),
 (573,defAt 27),
 (580,defAt 28),
 (587,defAt 29),
 (594,defAt 30),
 (599,defAt 31),
 (604,defAt 32),
 (611,defAt 33),
 (618,defAt 34),
 (625,defAt 35),
 (632,defAt 36),
 (639,defAt 37),
 (646,defAt 38),
 (653,defAt 39),
 (658,defAt 40),
 (665,defAt 41),
 (672,defAt 42),
 (679,defAt 43),
 (686,defAt 44),
 (693,defAt 46),
 (700,defAt 47),
 (707,defAt 48),
 (714,defAt 49),
 (721,defAt 50),
 (728,defAt 51),
 (733,defAt 52),
 (738,defAt 53),
 (745,defAt 54),
 (750,defAt 55),
 (755,defAt 56),
 (762,defAt 57),
 (769,defAt 58),
 (776,defAt 59),
 (783,defAt 60),
 (790,defAt 61),
 (797,defAt 62),
 (804,defAt 63),
 (809,defAt 64),
 (814,defAt 65),
 (821,defAt 66),
 (828,defAt 67),
 (835,defAt 68)]
noncomputable def fn0 (a:Nat):Option Def:=(fnL.lookup a).join
noncomputable def iniL:List (Nat×Nat):=[
 (59,35),
 (101,77),
 (141,119),
 (183,159),
 (221,201),
 (242,239),
 (282,260),
 (322,300),
 (362,340),
 (417,414),
 (438,435),
 (459,456),
 (480,477),
 (501,498),
 (562,524)]
noncomputable def ini0 (a:Nat):Option Nat:=iniL.lookup a
noncomputable def clss0:List Nat:=[59,101,141,183,221,242,282,322,362,417,438,459,480,501,562]
noncomputable def methL:List (Str×Nat):=[(nm "place",531),(nm "refuse",538),(nm "pass_blanks",545),(nm "word",552),(nm "quoted",559)]
noncomputable def meth0 (C:Nat) (x:Str):Option Nat:=if C=562 then methL.lookup x else none
noncomputable def kws (l:List String):AV:=.tup (l.map λ s=>.str (nm s).cps.toList)
noncomputable def glob0:List (Str×AV):=[
 (nm "len",.bi .len),
 (nm "max",.bi .max),
 (nm "int",.bi .int),
 (nm "isinstance",.bi .isinstance),
 (nm "all",.bi .all),
 (nm "chr",.bi .chr),
 (nm "tuple",.bi .tuple),
 (nm "list",.bi .list),
 (nm "str",.bi .str),
 (nm "range",.bi .range),
 (nm "KEYS",kws ["int","char","app","lam","let","letrec","case","of","is","else","con","prim","program"]),
 (nm "BLANKS",.str (nm " \t\r\n").cps.toList),
 (nm "ENDS",.str (nm " \t\r\n()|").cps.toList),
 (nm "FIGURES",.str (nm "0123456789").cps.toList),
 (nm "MOST_FIGURES",.int 4000),
 (nm "CoreError",.val 397),
 (nm "is_number",.val 510),
 (nm "refuse_list",.val 573),
 (nm "is_word",.val 580),
 (nm "name_in",.val 587),
 (nm "core_in",.val 594),
 (nm "cores_from",.val 599),
 (nm "names_at",.val 604),
 (nm "bind_of",.val 611),
 (nm "binds_at",.val 618),
 (nm "want_many",.val 625),
 (nm "literal_of",.val 632),
 (nm "let_of",.val 639),
 (nm "lam_of",.val 646),
 (nm "alt_of",.val 653),
 (nm "case_of",.val 658),
 (nm "program_of",.val 665),
 (nm "closed_list",.val 672),
 (nm "read_whole",.val 679),
 (nm "read_core",.val 686),
 (nm "_law_pool",.val 693),
 (nm "_law_take",.val 700),
 (nm "_law_one",.val 707),
 (nm "_law_words",.val 714),
 (nm "_law_name",.val 721),
 (nm "_law_list",.val 728),
 (nm "_law_names",.val 733),
 (nm "_law_bind",.val 738),
 (nm "_law_way",.val 745),
 (nm "_law_case",.val 750),
 (nm "_law_form",.val 755),
 (nm "_law_thing",.val 762),
 (nm "_law_gap",.val 769),
 (nm "_law_put",.val 776),
 (nm "_law_written",.val 783),
 (nm "_law_is_core",.val 790),
 (nm "_law_is_bind",.val 797),
 (nm "_law_sort",.val 804),
 (nm "_law_all_names",.val 809),
 (nm "_law_kind",.val 814),
 (nm "_law_first_wrong",.val 821),
 (nm "_law_refusal",.val 828),
 (nm "law",.val 835),
 (nm "Var",.val 59),
 (nm "Lit",.val 101),
 (nm "App",.val 141),
 (nm "Lam",.val 183),
 (nm "Let",.val 221),
 (nm "Alt",.val 242),
 (nm "Case",.val 282),
 (nm "Con",.val 322),
 (nm "Prim",.val 362),
 (nm "CoreWord",.val 417),
 (nm "OpenList",.val 438),
 (nm "ReadBind",.val 459),
 (nm "ReadElse",.val 480),
 (nm "ReadProgram",.val 501),
 (nm "CoreScanner",.val 562)]
noncomputable def fldL:List (Nat×List Str):=[
 (59,[(nm "name")]),
 (101,[(nm "kind"),(nm "value")]),
 (141,[(nm "fun"),(nm "args")]),
 (183,[(nm "params"),(nm "body")]),
 (221,[(nm "binds"),(nm "body"),(nm "is_rec")]),
 (242,[(nm "key"),(nm "names"),(nm "body")]),
 (282,[(nm "value"),(nm "name"),(nm "alts"),(nm "other")]),
 (322,[(nm "name"),(nm "args")]),
 (362,[(nm "op"),(nm "args")]),
 (417,[(nm "kind"),(nm "value"),(nm "place")]),
 (438,[(nm "place"),(nm "items")]),
 (459,[(nm "name"),(nm "body")]),
 (480,[(nm "body")]),
 (501,[(nm "main"),(nm "binds")]),
 (562,[(nm "text"),(nm "at"),(nm "line"),(nm "begun")])]
noncomputable def fld0 (a:Nat):List Str:=(fldL.lookup a).getD []
noncomputable def tb0:Tb where
 glob x:=glob0.lookup x
 fn:=fn0
 ini:=ini0
 inst a:=clss0.contains a
 fld C x:=(fld0 C).contains x
 meth:=meth0
 exc:=397
end
section
open PySem PySem.W PySem.Calls PyProof.Rows Builtin Builtin.ObjectAttr
noncomputable def exQ (n:Nat):Pos:=match ([(133,8,133,17),(133,8,133,26),(133,27,133,31),(133,33,133,40),(133,8,133,41),(133,8,133,41),(134,8,134,12),(134,8,134,20),(134,23,134,30),(134,8,134,30),(135,8,135,12),(135,8,135,18),(135,21,135,26)]:List (Nat×Nat×Nat×Nat)).getD n (135,8,135,26) with
 | (a,b,c,d)=>⟨a,b,c,d⟩
noncomputable def pos00:Pos:=⟨0,0,0,0⟩
noncomputable def exDf:List Expr:=match topB.getD 12 (.Pass pos00) with
 | .ClassDef zz zy zx body zw zv zu zt zs zr zq=>(body.findSome? λ
  | .FunctionDef zz args zy zx zw zv zu zt zs zr=>some args.defaults
  | _=>none).getD []
 | _=>[]
noncomputable def exShape:FShape:=(([],none,[],[],none,exDf),(3,[],.ref 374,.none,builtinsNs),true,.stmts (exBody exQ),exScope,exNames)
noncomputable def exObj:Obj:=excClassObj "CoreError" "CoreError" 397 396 [.ref 384] [.ref 384,.type "Exception",.type "BaseException",.type "object"] true [] [] false none none (some (.ref 388)) none (some (.str "CoreError" 694)) (some (.str "CoreError" 702)) (some (.bool true)) "Exception.__new__"
noncomputable def exkOk (K:Frag) (C f:Addr):Bool:=excOver K C && specialIn K (.ref C) "__call__" == some (some (.builtin "type.__call__")) && instIn K (.ref C) (.type "type") == some true && keepIn K (.ref C) &&
 findIn K (.ref C) "__setattr__" == some (some (.builtin "object.__setattr__")) && findIn K (.ref C) "message" == some none && findIn K (.ref C) "place" == some none &&
 findIn K (.ref C) "__getattribute__" == some (some (.builtin "BaseException.__getattribute__")) && findIn K (.ref C) "__getattr__" == some none && nsIn K mainGlobals "Exception" == some none &&
 findIn K (.ref C) "__init__" == some (some (.ref f)) && typeIn K (.ref f) == some (.type "function")
theorem exkOk_at {G:Gd} (hx:G.T.exc=397) (e:exkOk G.K 397 381=true) (h1:fnT G.K 381=some exShape) (h2:(G.K.lookup 374,G.K.lookup 397)=(some ⟨.type "tuple",none,.seq #[.none] 0,#[]⟩,some exObj)):Exk G:=by
 unfold exkOk at e
 simp only [Bool.and_eq_true,beq_iff_eq] at e
 obtain⟨⟨⟨⟨⟨⟨⟨⟨⟨⟨⟨a2,a3⟩,a4⟩,a5⟩,a6⟩,a7⟩,a8⟩,a9⟩,a10⟩,a11⟩,a12⟩,a13⟩:=e
 obtain⟨h2,h3⟩:=Prod.mk.inj h2
 rw [← hx] at a2 a3 a4 a5 a6 a7 a8 a9 a10 a12 h3
 obtain⟨⟨nm,qual,⟨_,as,_,_,_,_,_⟩,_,_,_,_,_,_,doc,pm,an,cdv,ct,_⟩,g1,g2⟩:=Option.map_eq_some_iff.mp h1
 refine ex31 (fdAt_at g1) λ oc od osl h=>?_
 simp only [shapeOf,exShape,Prod.mk.injEq] at g2
 clear h1 g1
 obtain⟨⟨rfl,rfl,rfl,rfl,rfl,rfl⟩,⟨rfl,rfl,rfl,rfl,rfl⟩,hc,rfl,rfl,hn⟩:=g2
 exact⟨⟨_,_,_,_,_,_,_,_,_,_,_,_,_,_,_,_,by rw [h3,hx];rfl,rfl⟩,a2,a3,a4,a5,a6,by unfold takerIn;rw [a7];rfl,by unfold takerIn;rw [a8];rfl,a9,a10,a8,a11,
  ⟨381,oc,od,osl,_,_,_,exQ,_,_,_,_,_,374,_,.none,0,a12,a13,h,hc,rfl,rfl,hn,rfl,rfl,rfl,h2,rfl⟩⟩
end
section
open PySem PySem.W PySem.Calls PyProof.Rows
noncomputable def adK:List Nat:=[3,34,35,58,59,76,77,100,101,118,119,140,141,158,159,182,183,200,201,220,221,238,239,241,242,259,260,281,282,299,300,321,322,339,340,361,362,374,380,381,383,384,396,397,400,413,414,416,417,434,435,437,438,455,456,458,459,476,477,479,480,497,498,500,501,509,510,523,524,530,531,537,538,544,545,551,552,558,559,561,562,572,573,579,580,586,587,593,594,598,599,603,604,610,611,617,618,624,625,631,632,638,639,645,646,652,653,657,658,664,665,671,672,678,679,685,686,692,693,699,700,706,707,713,714,720,721,727,728,732,733,737,738,744,745,749,750,754,755,761,762,768,769,775,776,782,783,789,790,796,797,803,804,808,809,813,814,820,821,827,828,834,835]
noncomputable def getT (t:BT) (n a:Nat):Option Obj:=match Nat.blt a n with
 | true=>(t.get a).bind alive
 | false=>none
noncomputable def fragT (t:BT) (n:Nat):Frag:=adK.filterMap λ a=>(getT t n a).map λ o=>(a,o)
theorem lookup_fm {α:Type} (f:Nat→Option α):∀ (l:List Nat) {a:Nat} {o:α},(l.filterMap λ a=>(f a).map λ o=>(a,o)).lookup a=some o→f a=some o
 | [],zz,zy,e=>by cases e
 | b :: l,a,o,e=>by
  cases h:f b with
  | none=>rw [List.filterMap_cons,h] at e;exact lookup_fm f l e
  | some u=>
   rw [List.filterMap_cons,h] at e
   simp only [Option.map_some,List.lookup_cons] at e
   cases hb:a == b with
   | true=>rw [hb] at e;cases e;rw [beq_iff_eq.mp hb];exact h
   | false=>rw [hb] at e;exact lookup_fm f l e
theorem getT_at {t:BT} {n a:Nat} {l:Life} {o:Obj} (e:getT t n a=some o):(absHeap t n l).get? a=some o:=by
 unfold getT at e
 cases h:Nat.blt a n with
 | false=>rw [h] at e;cases e
 | true=>
  rw [h] at e
  obtain⟨o',h1,h2⟩:=Option.bind_eq_some_iff.mp e
  exact (abs_get (Nat.le_of_ble_eq_true h) h1).trans h2
theorem fragT_in (t:BT) (n:Nat) (l:Life):(fragT t n).In (absHeap t n l):=λ zz zz e=>getT_at (lookup_fm _ _ e)
noncomputable def gT (K:Frag) (x:Str):Option AV:=(nsIn K mainGlobals x).bind λ o=>o.bind (valT K)
noncomputable abbrev FT:=List (Option (Option Value))×List (Option AV)×List (Option FShape)×List (Option Nat)×List Bool×List (Option Nat)×Bool×(Bool×Option FShape×Option Obj×Option Obj)×(Option (Option Value)×Option Bool)×List (Option Bool)
noncomputable def factsT (K:Frag):FT:=
 ((glob0.take 10).map (λ p=>nsIn K mainGlobals p.1),(glob0.drop 10).map (λ p=>gT K p.1),fnL.map (λ p=>fnT K p.1),iniL.map (λ p=>iniT K p.1),fldL.map (λ p=>p.2.all (fldT K p.1)),methL.map (λ p=>methT K 562 p.1),instT K clss0,(exkOk K 397 381,fnT K 381,K.lookup 374,K.lookup 397),
 (specialIn K (.builtin "object.__class__") "__get__",takesIn K (.builtin "object.__class__")),[kitOne K (.type "str") (.type "str"),kitOne K (.type "str") (.type "list"),kitOne K (.type "list") (.type "str"),kitOne K (.type "list") (.type "list")])
noncomputable def goodT:FT:=
 ((glob0.take 10).map (λ zz=>some none),(glob0.drop 10).map (λ p=>some p.2),fnL.map (λ p=>p.2.map fnS),iniL.map (λ p=>some p.2),fldL.map (λ zz=>true),methL.map (λ p=>some p.2),true,(true,some exShape,some ⟨.type "tuple",none,.seq #[.none] 0,#[]⟩,some exObj),(some (some (.builtin "getset_descriptor.__get__")),some true),[some true,some false,some false,some true])
noncomputable def HasF (h:Heap):Prop:=∃ K:Frag,K.In h∧factsT K=goodT
theorem of_map {α β:Type} {f g:α→β}:∀ {l:List α},l.map f=l.map g→∀ p∈l,f p=g p
 | a :: l,h,p,hp=>by
  rw [List.map_cons,List.map_cons] at h
  cases hp with
  | head=>exact (List.cons.inj h).1
  | tail zz hp=>exact of_map (List.cons.inj h).2 p hp
theorem look_in {α β:Type} [BEq α] [LawfulBEq α] {x:α} {c:β}:∀ {l:List (α×β)},l.lookup x=some c→(x,c)∈l
 | (y,j) :: r,h=>by
  rw [List.lookup_cons] at h
  cases hb:x == y with
  | true=>rw [hb] at h;cases h;rw [beq_iff_eq.mp hb];exact .head _
  | false=>rw [hb] at h;exact .tail _ (look_in h)
 | [],h=>by cases h
theorem take_drop_mem {α:Type} {l:List α} (n:Nat) {p:α} (h:p∈l):p∈l.take n∨p∈l.drop n:=by
 rw [← List.take_append_drop n l] at h;exact List.mem_append.mp h
structure Facts (K:Frag):Prop where
 gb:(glob0.take 10).map (λ p=>nsIn K mainGlobals p.1)=(glob0.take 10).map λ zz=>some none
 gv:(glob0.drop 10).map (λ p=>gT K p.1)=(glob0.drop 10).map λ p=>some p.2
 fn:fnL.map (λ p=>fnT K p.1)=fnL.map λ p=>p.2.map fnS
 ini:iniL.map (λ p=>iniT K p.1)=iniL.map λ p=>some p.2
 fld:fldL.map (λ p=>p.2.all (fldT K p.1))=fldL.map λ zz=>true
 meth:methL.map (λ p=>methT K 562 p.1)=methL.map λ p=>some p.2
 inst:instT K clss0=true
 exk:exkOk K 397 381=true
 exf:fnT K 381=some exShape
 exo:(K.lookup 374,K.lookup 397)=(some ⟨.type "tuple",none,.seq #[.none] 0,#[]⟩,some exObj)
 kcls:(specialIn K (.builtin "object.__class__") "__get__",takesIn K (.builtin "object.__class__"))=(some (some (.builtin "getset_descriptor.__get__")),some true)
 bis:[kitOne K (.type "str") (.type "str"),kitOne K (.type "str") (.type "list"),kitOne K (.type "list") (.type "str"),kitOne K (.type "list") (.type "list")]=[some true,some false,some false,some true]
theorem Facts.of {K:Frag} (e:factsT K=goodT):Facts K:=
 ⟨congrArg (·.1) e,congrArg (·.2.1) e,congrArg (·.2.2.1) e,congrArg (·.2.2.2.1) e,congrArg (·.2.2.2.2.1) e,congrArg (·.2.2.2.2.2.1) e,congrArg (·.2.2.2.2.2.2.1) e,congrArg (·.2.2.2.2.2.2.2.1.1) e,congrArg (·.2.2.2.2.2.2.2.1.2.1) e,congrArg (·.2.2.2.2.2.2.2.1.2.2) e,congrArg (·.2.2.2.2.2.2.2.2.1) e,congrArg (·.2.2.2.2.2.2.2.2.2) e⟩
theorem gb_all:∀ p∈glob0.take 10,p.1≠"__name__"∧∃ b:BI,p.2 = .bi b∧bootBuiltins p.1=some b.toV:=by
 show ∀ p∈[_,_,_,_,_,_,_,_,_,_],_
 repeat refine List.forall_mem_cons.mpr ⟨⟨by decide,_,rfl,by kernel_rfl⟩,?_⟩
 intro p hp;cases hp
theorem ini_none:∀ p∈iniL,fn0 p.1=none:=of_map (g:=λ zz=>none) (by kernel_rfl)
set_option tactic.hygienic true in
theorem Facts.tab {K:Frag} (F:Facts K):Tab K tb0 where
 glob:=λ x v h=>by
  have hm:(x,v)∈glob0:=look_in h
  rcases take_drop_mem 10 hm with h1 | h1
  ·exact .inr ⟨of_map F.gb _ h1,gb_all _ h1⟩
  ·refine ex12 (Option.bind_eq_some_iff.mp (of_map F.gv _ h1)) λ o h2 h3=>?_
   refine ex12 (Option.bind_eq_some_iff.mp h3) λ u rr1 h4=>?_
   clear F h3 h hm h1
   subst rr1
   exact .inl ⟨u,h2,h4⟩
 fn:=λ a q h=>by
  refine ex12 (Option.bind_eq_some_iff.mp (show (fnL.lookup a).bind id=some q from h)) λ o h1 h2=>?_
  subst (h2)
  exact of_map F.fn _ (look_in h1)
 ini:=λ C f h=>by
  have hm:(C,f)∈iniL:=look_in h
  exact⟨of_map F.ini _ hm,ini_none _ hm⟩
 fld:=λ C x h=>by
  have h:((fldL.lookup C).getD []).contains x=true:=h
  cases hl:fldL.lookup C with
  | none=>rw [hl] at h;cases h
  | some l=>
   rw [hl] at h
   have hm:=of_map F.fld _ (look_in hl)
   exact List.all_eq_true.mp hm x (List.contains_iff_mem.mp h)
 meth:=λ C x f h=>by
  have h:(if C=562 then methL.lookup x else none)=some f:=h
  split at h
  ·rename_i hC
   subst hC
   exact of_map F.meth _ (look_in h)
  ·cases h
 inst:=⟨clss0,F.inst,λ C e=>List.contains_iff_mem.mp e⟩
theorem sgEq:@segRunT = @PySem.W.Fast.tw10110043849684766642:=PySem.W.Fast.te10110043849684766642
noncomputable def lk0 (w:World) (s:Shared):=(staticsOk (importedModules pwL.main.body) (boot_heap w.params) s.heap && namesBound pwL s.heap && gensDone s && laidKept (boot_heap w.params) s.heap)
noncomputable def viewL:Program:=view pwL [68]
noncomputable def looseL:List Str:=pwL.boundNames.filter λ n=>!(n == "__name__" || n == "law")
noncomputable def xtL (s:Shared):Bool:=xlAt viewL [] s && recOk (RowW.records PySem.Challenge.rw_og0028_01.row.toRowW) s
theorem h_run (w:World) (os:OsState):(segRunT treeTable pwL w 11 (some (.ref 6)) 1 7000 (SharedT.mk (treeA w.params) 15 {} #[] {} 187 os) (piecesOf bodyL envL codeL pos0 [topFrame pos0])).map
  (λ r=>(r.1,r.2.2.1,lk0 w r.2.1.abs,openSeen viewL looseL (importedModules pwL.main.body) xtL true r.2.1.abs))=some (.next,codeL,true,openGood viewL looseL):=by
 rw [sgEq,tbEq]
 kernel_rfl
theorem h_fact (w:World) (os:OsState):(segRunT treeTable pwL w 11 (some (.ref 6)) 1 7000 (SharedT.mk (treeA w.params) 15 {} #[] {} 187 os) (piecesOf bodyL envL codeL pos0 [topFrame pos0])).map
  (λ r=>factsT (fragT r.2.1.tree r.2.1.n))=some goodT:=by
 rw [sgEq,tbEq]
 kernel_rfl
set_option profiler.threshold 300
theorem r_top {w:World} {os:OsState} {s':SharedT} {p:Pos} (hr:segRunT treeTable pwL w 11 (some (.ref 6)) 1 7000 (SharedT.mk (treeA w.params) 15 {} #[] {} 187 os) (piecesOf bodyL envL codeL pos0 [topFrame pos0])=some (.next,s',codeL,p)):
  topRun treeTable pwL w 11 (some (.ref 6)) 7015 ⟨boot_heap w.params,#[],boot_drawn,boot_toks,os⟩ (topStub pwL)=some s'.abs:=by
 have h:=piece_app (rest:=[]) (segRun_of hr) (piece_nil (h_fin w s'.abs codeL p))
 rw [List.append_nil] at h
 exact go_top (h_pre w os) (piece_block (h_blk w os) h)
theorem top_from {w:World} {os:OsState} {S:Shared} (r1:topRun treeTable pwL w 11 (some (.ref 6)) 7015 ⟨boot_heap w.params,#[],boot_drawn,boot_toks,os⟩ (topStub pwL)=some S) (l1:lk0 w S=true):
  topFrom treeTable pwL w 8000 ⟨boot_heap w.params,#[],boot_drawn,boot_toks,os⟩=some S:=by
 obtain⟨z1,z2,z3⟩:_∧_∧_:=by simpa only [Prod.mk.injEq] using h_size w
 have r2:=topRun_mono 985 _ _ _ _ r1
 unfold topFrom
 dsimp only
 rw [z1,z2,z3,r2]
 show (match lk0 w S with | true=>_ | false=>_)=_
 rw [l1]
theorem hr_ex (w:World) (os:OsState):∃ s' p,segRunT treeTable pwL w 11 (some (.ref 6)) 1 7000 (SharedT.mk (treeA w.params) 15 {} #[] {} 187 os) (piecesOf bodyL envL codeL pos0 [topFrame pos0])=some (.next,s',codeL,p)∧(lk0 w s'.abs=true∧openSeen viewL looseL (importedModules pwL.main.body) xtL true s'.abs=openGood viewL looseL)∧HasF s'.abs.heap:=by
 obtain⟨⟨f,s',c,p⟩,hr,hx⟩:=Option.map_eq_some_iff.mp (h_run w os)
 have hf:=h_fact w os
 rw [hr] at hf
 obtain⟨rfl,hx⟩:=Prod.mk.inj hx
 obtain⟨rfl,hx⟩:=Prod.mk.inj hx
 exact⟨s',p,hr,Prod.mk.inj hx,_,fragT_in _ _ _,Option.some.inj hf⟩
theorem boot_ex (w:World):∃ os,fencedOpening treeTable pwL w 8000=some ⟨boot_heap w.params,#[],boot_drawn,boot_toks,os⟩:=by
 obtain⟨⟨h,gs,d,k,os⟩,e,e'⟩:=Option.map_eq_some_iff.mp (boot_open (p:=pwL) (N:=8000) h_open (by decide) h_fence w)
 obtain⟨rfl,rfl,rfl,rfl⟩:h=boot_heap w.params∧gs = #[]∧d=boot_drawn∧k=boot_toks:=by simpa using e'
 exact⟨os,e⟩
theorem left_of {w:World} {os:OsState} {S:Shared} (e:fencedOpening treeTable pwL w 8000=some ⟨boot_heap w.params,#[],boot_drawn,boot_toks,os⟩)
  (t:topFrom treeTable pwL w 8000 ⟨boot_heap w.params,#[],boot_drawn,boot_toks,os⟩=some S) (h1:openSeen viewL looseL (importedModules pwL.main.body) xtL true S=openGood viewL looseL) (h2:HasF S.heap):
  (openEnds treeTable pwL w 8000).map (λ s=>(openSeen viewL looseL (importedModules pwL.main.body) xtL true s,HasF s.heap))=some (openGood viewL looseL,True):=by
 unfold openEnds
 rw [e,Option.bind_some,t,Option.map_some,h1,eq_true h2]
theorem leftL:LeftO pwL viewL looseL xtL (λ s=>HasF s.heap) (λ zz=>True) 8000:=λ w=>by
 obtain⟨os,e⟩:=boot_ex w
 obtain⟨s',p,hr,h1,h2⟩:=hr_ex w os
 exact left_of e (top_from (r_top hr) h1.1) h1.2 h2
end
section
open PySem PySem.W
noncomputable def stepK (T:Tb) (fuel:Nat) (c:Nat→List AV→PM AV) (a:Nat) (args:List AV):PM AV:=match T.fn a with
  | some (ps,body,sc)=>if ps.length=args.length∧fnOk ps sc=true then exSs ⟨T,c,fuel⟩ 60 sc body (ps.zip args) (λ zz=>pure .none) else PM.fail
  | Option.none=>match T.ini a with
   | some init=>do
    let o ← newO (.inst a [])
    let r ← c init (o :: args)
    match r with
    | .none=>pure o
    | _=>PM.fail
   | Option.none=>PM.fail
theorem callF_step (T:Tb) (fuel d a:Nat) (args:List AV):callF T fuel (d + 1) a args=stepK T fuel (callF T fuel d) a args:=by
 rfl
noncomputable abbrev CC:=Nat→List AV→PM AV
noncomputable def lk (lc:Lc) (x:Str):PM AV:=PM.ofOpt (kvGet lc x)
noncomputable def kKEYS:AV:=kws ["int","char","app","lam","let","letrec","case","of","is","else","con","prim","program"]
noncomputable def onBare (v:AV):PM AV:=match v with
 | .str s=>if s∈bareWords then pure (.str (s.filter (·≠45))) else PM.fail
 | _=>PM.fail
noncomputable def D35 (c:CC) (fuel:Nat) (aC:AV) (aN:AV):PM AV:=
 (setAttrA tb0 aC (nm "name") aN>>=λ zz=>(pure .none))
theorem den_35 (d fuel:Nat) (aC:AV) (aN:AV):callF tb0 fuel (d + 1) 35 [aC,aN]=D35 (callF tb0 fuel d) fuel aC aN:=(callF_step ..).trans (by kernel_rfl)
noncomputable def D77 (c:CC) (fuel:Nat) (aC:AV) (aP:AV) (aR:AV):PM AV:=
 (setAttrA tb0 aC (nm "kind") aP>>=λ zz=>(setAttrA tb0 aC (nm "value") aR>>=λ zz=>(pure .none)))
theorem den_77 (d fuel:Nat) (aC:AV) (aP:AV) (aR:AV):callF tb0 fuel (d + 1) 77 [aC,aP,aR]=D77 (callF tb0 fuel d) fuel aC aP aR:=(callF_step ..).trans (by kernel_rfl)
noncomputable def D119 (c:CC) (fuel:Nat) (aC:AV) (bE:AV) (aS:AV):PM AV:=
 (setAttrA tb0 aC (nm "fun") bE>>=λ zz=>(setAttrA tb0 aC (nm "args") aS>>=λ zz=>(pure .none)))
theorem den_119 (d fuel:Nat) (aC:AV) (bE:AV) (aS:AV):callF tb0 fuel (d + 1) 119 [aC,bE,aS]=D119 (callF tb0 fuel d) fuel aC bE aS:=(callF_step ..).trans (by kernel_rfl)
noncomputable def D159 (c:CC) (fuel:Nat) (aC:AV) (bD:AV) (aO:AV):PM AV:=
 (setAttrA tb0 aC (nm "params") bD>>=λ zz=>(setAttrA tb0 aC (nm "body") aO>>=λ zz=>(pure .none)))
theorem den_159 (d fuel:Nat) (aC:AV) (bD:AV) (aO:AV):callF tb0 fuel (d + 1) 159 [aC,bD,aO]=D159 (callF tb0 fuel d) fuel aC bD aO:=(callF_step ..).trans (by kernel_rfl)
noncomputable def D201 (c:CC) (fuel:Nat) (aC:AV) (aU:AV) (aO:AV) (aQ:AV):PM AV:=
 (setAttrA tb0 aC (nm "binds") aU>>=λ zz=>(setAttrA tb0 aC (nm "body") aO>>=λ zz=>(setAttrA tb0 aC (nm "is_rec") aQ>>=λ zz=>(pure .none))))
theorem den_201 (d fuel:Nat) (aC:AV) (aU:AV) (aO:AV) (aQ:AV):callF tb0 fuel (d + 1) 201 [aC,aU,aO,aQ]=D201 (callF tb0 fuel d) fuel aC aU aO aQ:=(callF_step ..).trans (by kernel_rfl)
noncomputable def D239 (c:CC) (fuel:Nat) (aC:AV) (bG:AV) (bH:AV) (aO:AV):PM AV:=
 (setAttrA tb0 aC (nm "key") bG>>=λ zz=>(setAttrA tb0 aC (nm "names") bH>>=λ zz=>(setAttrA tb0 aC (nm "body") aO>>=λ zz=>(pure .none))))
theorem den_239 (d fuel:Nat) (aC:AV) (bG:AV) (bH:AV) (aO:AV):callF tb0 fuel (d + 1) 239 [aC,bG,bH,aO]=D239 (callF tb0 fuel d) fuel aC bG bH aO:=(callF_step ..).trans (by kernel_rfl)
noncomputable def D260 (c:CC) (fuel:Nat) (aC:AV) (aR:AV) (aN:AV) (bI:AV) (aZ:AV):PM AV:=
 (setAttrA tb0 aC (nm "value") aR>>=λ zz=>(setAttrA tb0 aC (nm "name") aN>>=λ zz=>(setAttrA tb0 aC (nm "alts") bI>>=λ zz=>(setAttrA tb0 aC (nm "other") aZ>>=λ zz=>(pure .none)))))
theorem den_260 (d fuel:Nat) (aC:AV) (aR:AV) (aN:AV) (bI:AV) (aZ:AV):callF tb0 fuel (d + 1) 260 [aC,aR,aN,bI,aZ]=D260 (callF tb0 fuel d) fuel aC aR aN bI aZ:=(callF_step ..).trans (by kernel_rfl)
noncomputable def D300 (c:CC) (fuel:Nat) (aC:AV) (aN:AV) (aS:AV):PM AV:=
 (setAttrA tb0 aC (nm "name") aN>>=λ zz=>(setAttrA tb0 aC (nm "args") aS>>=λ zz=>(pure .none)))
theorem den_300 (d fuel:Nat) (aC:AV) (aN:AV) (aS:AV):callF tb0 fuel (d + 1) 300 [aC,aN,aS]=D300 (callF tb0 fuel d) fuel aC aN aS:=(callF_step ..).trans (by kernel_rfl)
noncomputable def D340 (c:CC) (fuel:Nat) (aC:AV) (aA:AV) (aS:AV):PM AV:=
 (setAttrA tb0 aC (nm "op") aA>>=λ zz=>(setAttrA tb0 aC (nm "args") aS>>=λ zz=>(pure .none)))
theorem den_340 (d fuel:Nat) (aC:AV) (aA:AV) (aS:AV):callF tb0 fuel (d + 1) 340 [aC,aA,aS]=D340 (callF tb0 fuel d) fuel aC aA aS:=(callF_step ..).trans (by kernel_rfl)
noncomputable def D414 (c:CC) (fuel:Nat) (aC:AV) (aP:AV) (aR:AV) (aV:AV):PM AV:=
 (setAttrA tb0 aC (nm "kind") aP>>=λ zz=>(setAttrA tb0 aC (nm "value") aR>>=λ zz=>(setAttrA tb0 aC (nm "place") aV>>=λ zz=>(pure .none))))
theorem den_414 (d fuel:Nat) (aC:AV) (aP:AV) (aR:AV) (aV:AV):callF tb0 fuel (d + 1) 414 [aC,aP,aR,aV]=D414 (callF tb0 fuel d) fuel aC aP aR aV:=(callF_step ..).trans (by kernel_rfl)
noncomputable def D435 (c:CC) (fuel:Nat) (aC:AV) (aV:AV):PM AV:=
 (setAttrA tb0 aC (nm "place") aV>>=λ zz=>(((newL []))>>=λ x1=>(setAttrA tb0 aC (nm "items") x1>>=λ zz=>(pure .none))))
theorem den_435 (d fuel:Nat) (aC:AV) (aV:AV):callF tb0 fuel (d + 1) 435 [aC,aV]=D435 (callF tb0 fuel d) fuel aC aV:=(callF_step ..).trans (by kernel_rfl)
noncomputable def D456 (c:CC) (fuel:Nat) (aC:AV) (aN:AV) (aO:AV):PM AV:=
 (setAttrA tb0 aC (nm "name") aN>>=λ zz=>(setAttrA tb0 aC (nm "body") aO>>=λ zz=>(pure .none)))
theorem den_456 (d fuel:Nat) (aC:AV) (aN:AV) (aO:AV):callF tb0 fuel (d + 1) 456 [aC,aN,aO]=D456 (callF tb0 fuel d) fuel aC aN aO:=(callF_step ..).trans (by kernel_rfl)
noncomputable def D477 (c:CC) (fuel:Nat) (aC:AV) (aO:AV):PM AV:=
 (setAttrA tb0 aC (nm "body") aO>>=λ zz=>(pure .none))
theorem den_477 (d fuel:Nat) (aC:AV) (aO:AV):callF tb0 fuel (d + 1) 477 [aC,aO]=D477 (callF tb0 fuel d) fuel aC aO:=(callF_step ..).trans (by kernel_rfl)
noncomputable def D498 (c:CC) (fuel:Nat) (aC:AV) (bF:AV) (aU:AV):PM AV:=
 (setAttrA tb0 aC (nm "main") bF>>=λ zz=>(setAttrA tb0 aC (nm "binds") aU>>=λ zz=>(pure .none)))
theorem den_498 (d fuel:Nat) (aC:AV) (bF:AV) (aU:AV):callF tb0 fuel (d + 1) 498 [aC,bF,aU]=D498 (callF tb0 fuel d) fuel aC bF aU:=(callF_step ..).trans (by kernel_rfl)
noncomputable def D510 (c:CC) (fuel:Nat) (aJ:AV):PM AV:=
 ((((((sliceA aJ .none (.int 1)))>>=λ v1=>(cmpA .Eq v1 (.str [45])))>>=λ tc=>match tc with | true=>(sliceA aJ (.int 1) .none) | false=>(pure aJ)))>>=λ x2=>boolA .And [((cmpA .NotEq x2 (.str []))>>=λ b=>pure (.bool b)),(seqA [(srcOf x2>>=λ src=>goN (λ x3=>(((cmpA .In x3 (.str [48,49,50,51,52,53,54,55,56,57]))>>=λ b=>pure (.bool b))>>=λ y=>pure [y])) src fuel 0>>=λ vs=>newL vs)]>>=λ vs4=>(callB tb0 .all vs4))])
theorem den_510 (d fuel:Nat) (aJ:AV):callF tb0 fuel (d + 1) 510 [aJ]=D510 (callF tb0 fuel d) fuel aJ:=(callF_step ..).trans (by kernel_rfl)
noncomputable def D524 (c:CC) (fuel:Nat) (aC:AV) (aJ:AV):PM AV:=
 (setAttrA tb0 aC (nm "text") aJ>>=λ zz=>(setAttrA tb0 aC (nm "at") (.int 0)>>=λ zz=>(setAttrA tb0 aC (nm "line") (.int 1)>>=λ zz=>(setAttrA tb0 aC (nm "begun") (.int 0)>>=λ zz=>(pure .none)))))
theorem den_524 (d fuel:Nat) (aC:AV) (aJ:AV):callF tb0 fuel (d + 1) 524 [aC,aJ]=D524 (callF tb0 fuel d) fuel aC aJ:=(callF_step ..).trans (by kernel_rfl)
noncomputable def D531 (c:CC) (fuel:Nat) (aC:AV):PM AV:=
 (seqA [(attrA tb0 aC (nm "line")),(((((attrA tb0 aC (nm "at")))>>=λ v4=>(((attrA tb0 aC (nm "begun")))>>=λ v5=>(binA .Sub v4 v5))))>>=λ v6=>(binA .Add v6 (.int 1)))]>>=λ vs7=>(if vs7.length≤maxLen then pure (.tup vs7) else PM.fail))
theorem den_531 (d fuel:Nat) (aC:AV):callF tb0 fuel (d + 1) 531 [aC]=D531 (callF tb0 fuel d) fuel aC:=(callF_step ..).trans (by kernel_rfl)
noncomputable def K545_25 (lc1:Lc) (x25:AV) (kk2:Lc→PM AV):PM AV:=
 ((lk lc1 (nm "self"))>>=λ v26=>(setAttrA tb0 v26 (nm "line") x25>>=λ zz=>((((lk lc1 (nm "self"))>>=λ v27=>(attrA tb0 v27 (nm "at"))))>>=λ x28=>((lk lc1 (nm "self"))>>=λ v29=>(setAttrA tb0 v29 (nm "begun") x28>>=λ zz=>(kk2 lc1))))))
noncomputable def K545_t2 (lc1:Lc) (kk2:Lc→PM AV):PM AV:=
 ((((((lk lc1 (nm "self"))>>=λ v23=>(attrA tb0 v23 (nm "line"))))>>=λ v24=>(binA .Add v24 (.int 1))))>>=λ x25=>(K545_25 lc1 x25 kk2))
noncomputable def K545_15 (lc1:Lc) (x15:AV) (kk2:Lc→PM AV):PM AV:=
 ((lk lc1 (nm "self"))>>=λ v16=>(setAttrA tb0 v16 (nm "at") x15>>=λ zz=>(((((((lk lc1 (nm "self"))>>=λ v17=>(attrA tb0 v17 (nm "text"))))>>=λ v18=>((((((lk lc1 (nm "self"))>>=λ v19=>(attrA tb0 v19 (nm "at"))))>>=λ v20=>(binA .Sub v20 (.int 1))))>>=λ v21=>(subA v18 v21))))>>=λ v22=>(cmpA .Eq v22 (.str [10])))>>=λ tc=>match tc with
 | true=>(K545_t2 lc1 kk2)
 | false=>(kk2 lc1))))
noncomputable def D545 (c:CC) (fuel:Nat) (aC:AV):PM AV:=
 (loopN (λ lc1=>(boolT .And [((((lk lc1 (nm "self"))>>=λ v3=>(attrA tb0 v3 (nm "at"))))>>=λ v4=>(((seqA [((lk lc1 (nm "self"))>>=λ v5=>(attrA tb0 v5 (nm "text")))]>>=λ vs6=>(callB tb0 .len vs6)))>>=λ v7=>(cmpA .Lt v4 v7))),((((((lk lc1 (nm "self"))>>=λ v8=>(attrA tb0 v8 (nm "text"))))>>=λ v9=>((((lk lc1 (nm "self"))>>=λ v10=>(attrA tb0 v10 (nm "at"))))>>=λ v11=>(subA v9 v11))))>>=λ v12=>(cmpA .In v12 (.str [32,9,13,10])))]))
 (λ lc1 kk2=>((((((lk lc1 (nm "self"))>>=λ v13=>(attrA tb0 v13 (nm "at"))))>>=λ v14=>(binA .Add v14 (.int 1))))>>=λ x15=>(K545_15 lc1 x15 kk2)))
 (λ lc1=>(pure .none)) fuel [(nm "self",aC)])
theorem den_545 (d fuel:Nat) (aC:AV):callF tb0 fuel (d + 1) 545 [aC]=D545 (callF tb0 fuel d) fuel aC:=(callF_step ..).trans (by kernel_rfl)
noncomputable def K552_t1 (aC:AV) (c:CC) (x9:AV) (x3:AV):PM AV:=
 (((((attrA tb0 aC (nm "at")))>>=λ v10=>(binA .Add v10 (.int 1))))>>=λ x11=>(setAttrA tb0 aC (nm "at") x11>>=λ zz=>(c 417 [x9,x9,x3])))
noncomputable def K552_t2 (aC:AV) (c:CC) (fuel:Nat) (x3:AV):PM AV:=
 (seqA [(pure (.str [110,97,109,101])),(methA tb0 aC (nm "quoted")>>=λ m12=>callM ⟨tb0,c,fuel⟩ m12 aC []),(pure x3)]>>=λ vs13=>(c 417 vs13))
noncomputable def K552_t3 (lc15:Lc) (x36:AV):PM AV:=
 (seqA [(pure (.str [97,32,110,117,109,98,101,114,32,104,97,115,32,116,111,111,32,109,97,110,121,32,102,105,103,117,114,101,115])),lk (kvSet lc15 (nm "text") x36) (nm "place")]>>=λ vs41=>(raiseA tb0 (.val 397) vs41))
noncomputable def K552_f4 (lc15:Lc) (x36:AV) (c:CC):PM AV:=
 (seqA [(pure (.str [110,117,109,98,101,114])),(seqA [lk (kvSet lc15 (nm "text") x36) (nm "text")]>>=λ vs42=>(callB tb0 .int vs42)),lk (kvSet lc15 (nm "text") x36) (nm "place")]>>=λ vs43=>(c 417 vs43))
noncomputable def K552_t5 (lc15:Lc) (x36:AV) (c:CC):PM AV:=
 ((((seqA [lk (kvSet lc15 (nm "text") x36) (nm "text")]>>=λ vs39=>(callB tb0 .len vs39)))>>=λ v40=>(cmpA .Gt v40 (.int 4000)))>>=λ tc=>match tc with
 | true=>(K552_t3 lc15 x36)
 | false=>(K552_f4 lc15 x36 c))
noncomputable def K552_f6 (lc15:Lc) (x36:AV) (c:CC):PM AV:=
 (seqA [(((lk (kvSet lc15 (nm "text") x36) (nm "text"))>>=λ v44=>(cmpA .In v44 kKEYS))>>=λ tc=>match tc with | true=>(pure (.str [107,101,121])) | false=>(pure (.str [110,97,109,101]))),lk (kvSet lc15 (nm "text") x36) (nm "text"),lk (kvSet lc15 (nm "text") x36) (nm "place")]>>=λ vs45=>(c 417 vs45))
noncomputable def K552_36 (lc15:Lc) (x36:AV) (c:CC):PM AV:=
 ((((seqA [lk (kvSet lc15 (nm "text") x36) (nm "text")]>>=λ vs37=>(c 510 vs37)))>>=λ v38=>(truthA v38))>>=λ tc=>match tc with
 | true=>(K552_t5 lc15 x36 c)
 | false=>(K552_f6 lc15 x36 c))
noncomputable def K552_14 (c:CC) (fuel:Nat) (aC:AV) (x3:AV) (x9:AV) (x14:AV):PM AV:=
 (loopN (λ lc15=>(boolT .And [((((lk lc15 (nm "self"))>>=λ v17=>(attrA tb0 v17 (nm "at"))))>>=λ v18=>(((seqA [((lk lc15 (nm "self"))>>=λ v19=>(attrA tb0 v19 (nm "text")))]>>=λ vs20=>(callB tb0 .len vs20)))>>=λ v21=>(cmpA .Lt v18 v21))),((((((lk lc15 (nm "self"))>>=λ v22=>(attrA tb0 v22 (nm "text"))))>>=λ v23=>((((lk lc15 (nm "self"))>>=λ v24=>(attrA tb0 v24 (nm "at"))))>>=λ v25=>(subA v23 v25))))>>=λ v26=>(cmpA .NotIn v26 (.str [32,9,13,10,40,41,124])))]))
 (λ lc15 kk16=>((((((lk lc15 (nm "self"))>>=λ v27=>(attrA tb0 v27 (nm "at"))))>>=λ v28=>(binA .Add v28 (.int 1))))>>=λ x29=>((lk lc15 (nm "self"))>>=λ v30=>(setAttrA tb0 v30 (nm "at") x29>>=λ zz=>(kk16 lc15)))))
 (λ lc15=>((((((lk lc15 (nm "self"))>>=λ v32=>(attrA tb0 v32 (nm "text"))))>>=λ v33=>((lk lc15 (nm "begin"))>>=λ v34=>((((lk lc15 (nm "self"))>>=λ v31=>(attrA tb0 v31 (nm "at"))))>>=λ v35=>(sliceA v33 v34 v35)))))>>=λ x36=>(K552_36 lc15 x36 c))) fuel [(nm "self",aC),(nm "place",x3),(nm "sign",x9),(nm "begin",x14)])
noncomputable def K552_f9 (x9:AV) (aC:AV) (c:CC) (fuel:Nat) (x3:AV):PM AV:=
 ((cmpA .Eq x9 (.str [124]))>>=λ tc=>match tc with
 | true=>(K552_t2 aC c fuel x3)
 | false=>(((attrA tb0 aC (nm "at")))>>=λ x14=>(K552_14 c fuel aC x3 x9 x14)))
noncomputable def K552_f10 (aC:AV) (c:CC) (x3:AV) (fuel:Nat):PM AV:=
 (((((attrA tb0 aC (nm "text")))>>=λ v7=>(((attrA tb0 aC (nm "at")))>>=λ v8=>(subA v7 v8))))>>=λ x9=>((cmpA .In x9 (.str [40,41]))>>=λ tc=>match tc with
 | true=>(K552_t1 aC c x9 x3)
 | false=>(K552_f9 x9 aC c fuel x3)))
noncomputable def K552_3 (aC:AV) (c:CC) (x3:AV) (fuel:Nat):PM AV:=
 ((((attrA tb0 aC (nm "at")))>>=λ v4=>(((seqA [(attrA tb0 aC (nm "text"))]>>=λ vs5=>(callB tb0 .len vs5)))>>=λ v6=>(cmpA .GtE v4 v6)))>>=λ tc=>match tc with
 | true=>(c 417 [(.str [101,110,100]),(.str []),x3])
 | false=>(K552_f10 aC c x3 fuel))
noncomputable def D552 (c:CC) (fuel:Nat) (aC:AV):PM AV:=
 ((methA tb0 aC (nm "pass_blanks")>>=λ m1=>callM ⟨tb0,c,fuel⟩ m1 aC [])>>=λ zz=>(((methA tb0 aC (nm "place")>>=λ m2=>callM ⟨tb0,c,fuel⟩ m2 aC []))>>=λ x3=>(K552_3 aC c x3 fuel)))
theorem den_552 (d fuel:Nat) (aC:AV):callF tb0 fuel (d + 1) 552 [aC]=D552 (callF tb0 fuel d) fuel aC:=(callF_step ..).trans (by kernel_rfl)
noncomputable def K559_t1 (lc4:Lc) (c:CC) (fuel:Nat) (kk5:Lc→PM AV):PM AV:=
 (((lk lc4 (nm "self"))>>=λ v42=>(methA tb0 v42 (nm "refuse")>>=λ m43=>callM ⟨tb0,c,fuel⟩ m43 v42 [(.str [97,32,110,97,109,101,32,103,111,101,115,32,111,110,32,105,110,32,97,110,111,116,104,101,114,32,108,105,110,101])]))>>=λ zz=>(((lk lc4 (nm "signs"))>>=λ v44=>(methA tb0 v44 (nm "append")>>=λ m45=>(seqA [((((lk lc4 (nm "self"))>>=λ v46=>(attrA tb0 v46 (nm "text"))))>>=λ v47=>((((lk lc4 (nm "self"))>>=λ v48=>(attrA tb0 v48 (nm "at"))))>>=λ v49=>(subA v47 v49)))]>>=λ vs50=>callM ⟨tb0,c,fuel⟩ m45 v44 vs50)))>>=λ zz=>((((((lk lc4 (nm "self"))>>=λ v51=>(attrA tb0 v51 (nm "at"))))>>=λ v52=>(binA .Add v52 (.int 1))))>>=λ x53=>((lk lc4 (nm "self"))>>=λ v54=>(setAttrA tb0 v54 (nm "at") x53>>=λ zz=>(kk5 lc4))))))
noncomputable def K559_f2 (lc4:Lc) (c:CC) (fuel:Nat) (kk5:Lc→PM AV):PM AV:=
 (((lk lc4 (nm "signs"))>>=λ v55=>(methA tb0 v55 (nm "append")>>=λ m56=>(seqA [((((lk lc4 (nm "self"))>>=λ v57=>(attrA tb0 v57 (nm "text"))))>>=λ v58=>((((lk lc4 (nm "self"))>>=λ v59=>(attrA tb0 v59 (nm "at"))))>>=λ v60=>(subA v58 v60)))]>>=λ vs61=>callM ⟨tb0,c,fuel⟩ m56 v55 vs61)))>>=λ zz=>((((((lk lc4 (nm "self"))>>=λ v62=>(attrA tb0 v62 (nm "at"))))>>=λ v63=>(binA .Add v63 (.int 1))))>>=λ x64=>((lk lc4 (nm "self"))>>=λ v65=>(setAttrA tb0 v65 (nm "at") x64>>=λ zz=>(kk5 lc4)))))
noncomputable def K559_t3 (lc4:Lc) (c:CC) (fuel:Nat) (kk5:Lc→PM AV):PM AV:=
 (((lk lc4 (nm "self"))>>=λ v35=>(methA tb0 v35 (nm "refuse")>>=λ m36=>callM ⟨tb0,c,fuel⟩ m36 v35 [(.str [97,32,98,97,99,107,32,115,116,114,111,107,101,32,97,104,101,97,100,32,111,102,32,97,110,111,116,104,101,114,32,115,105,103,110])]))>>=λ zz=>(((((((lk lc4 (nm "self"))>>=λ v37=>(attrA tb0 v37 (nm "text"))))>>=λ v38=>((((lk lc4 (nm "self"))>>=λ v39=>(attrA tb0 v39 (nm "at"))))>>=λ v40=>(subA v38 v40))))>>=λ v41=>(cmpA .Eq v41 (.str [10])))>>=λ tc=>match tc with
 | true=>(K559_t1 lc4 c fuel kk5)
 | false=>(K559_f2 lc4 c fuel kk5)))
noncomputable def K559_t4 (lc4:Lc) (c:CC) (fuel:Nat) (kk5:Lc→PM AV):PM AV:=
 (((lk lc4 (nm "self"))>>=λ v71=>(methA tb0 v71 (nm "refuse")>>=λ m72=>callM ⟨tb0,c,fuel⟩ m72 v71 [(.str [97,32,110,97,109,101,32,103,111,101,115,32,111,110,32,105,110,32,97,110,111,116,104,101,114,32,108,105,110,101])]))>>=λ zz=>(((lk lc4 (nm "signs"))>>=λ v73=>(methA tb0 v73 (nm "append")>>=λ m74=>(seqA [((((lk lc4 (nm "self"))>>=λ v75=>(attrA tb0 v75 (nm "text"))))>>=λ v76=>((((lk lc4 (nm "self"))>>=λ v77=>(attrA tb0 v77 (nm "at"))))>>=λ v78=>(subA v76 v78)))]>>=λ vs79=>callM ⟨tb0,c,fuel⟩ m74 v73 vs79)))>>=λ zz=>((((((lk lc4 (nm "self"))>>=λ v80=>(attrA tb0 v80 (nm "at"))))>>=λ v81=>(binA .Add v81 (.int 1))))>>=λ x82=>((lk lc4 (nm "self"))>>=λ v83=>(setAttrA tb0 v83 (nm "at") x82>>=λ zz=>(kk5 lc4))))))
noncomputable def K559_f5 (lc4:Lc) (c:CC) (fuel:Nat) (kk5:Lc→PM AV):PM AV:=
 (((lk lc4 (nm "signs"))>>=λ v84=>(methA tb0 v84 (nm "append")>>=λ m85=>(seqA [((((lk lc4 (nm "self"))>>=λ v86=>(attrA tb0 v86 (nm "text"))))>>=λ v87=>((((lk lc4 (nm "self"))>>=λ v88=>(attrA tb0 v88 (nm "at"))))>>=λ v89=>(subA v87 v89)))]>>=λ vs90=>callM ⟨tb0,c,fuel⟩ m85 v84 vs90)))>>=λ zz=>((((((lk lc4 (nm "self"))>>=λ v91=>(attrA tb0 v91 (nm "at"))))>>=λ v92=>(binA .Add v92 (.int 1))))>>=λ x93=>((lk lc4 (nm "self"))>>=λ v94=>(setAttrA tb0 v94 (nm "at") x93>>=λ zz=>(kk5 lc4)))))
noncomputable def K559_f6 (lc4:Lc) (c:CC) (fuel:Nat) (kk5:Lc→PM AV):PM AV:=
 (((((((lk lc4 (nm "self"))>>=λ v66=>(attrA tb0 v66 (nm "text"))))>>=λ v67=>((((lk lc4 (nm "self"))>>=λ v68=>(attrA tb0 v68 (nm "at"))))>>=λ v69=>(subA v67 v69))))>>=λ v70=>(cmpA .Eq v70 (.str [10])))>>=λ tc=>match tc with
 | true=>(K559_t4 lc4 c fuel kk5)
 | false=>(K559_f5 lc4 c fuel kk5))
noncomputable def K559_23 (lc4:Lc) (x23:AV) (c:CC) (fuel:Nat) (kk5:Lc→PM AV):PM AV:=
 ((lk lc4 (nm "self"))>>=λ v24=>(setAttrA tb0 v24 (nm "at") x23>>=λ zz=>((boolT .Or [((((lk lc4 (nm "self"))>>=λ v25=>(attrA tb0 v25 (nm "at"))))>>=λ v26=>(((seqA [((lk lc4 (nm "self"))>>=λ v27=>(attrA tb0 v27 (nm "text")))]>>=λ vs28=>(callB tb0 .len vs28)))>>=λ v29=>(cmpA .GtE v26 v29))),((((((lk lc4 (nm "self"))>>=λ v30=>(attrA tb0 v30 (nm "text"))))>>=λ v31=>((((lk lc4 (nm "self"))>>=λ v32=>(attrA tb0 v32 (nm "at"))))>>=λ v33=>(subA v31 v33))))>>=λ v34=>(cmpA .NotIn v34 (.str [124,92])))])>>=λ tc=>match tc with
 | true=>(K559_t3 lc4 c fuel kk5)
 | false=>(K559_f6 lc4 c fuel kk5))))
noncomputable def K559_t8 (lc4:Lc) (c:CC) (fuel:Nat) (kk5:Lc→PM AV):PM AV:=
 ((((((lk lc4 (nm "self"))>>=λ v21=>(attrA tb0 v21 (nm "at"))))>>=λ v22=>(binA .Add v22 (.int 1))))>>=λ x23=>(K559_23 lc4 x23 c fuel kk5))
noncomputable def K559_t9 (lc4:Lc) (c:CC) (fuel:Nat) (kk5:Lc→PM AV):PM AV:=
 (((lk lc4 (nm "self"))>>=λ v100=>(methA tb0 v100 (nm "refuse")>>=λ m101=>callM ⟨tb0,c,fuel⟩ m101 v100 [(.str [97,32,110,97,109,101,32,103,111,101,115,32,111,110,32,105,110,32,97,110,111,116,104,101,114,32,108,105,110,101])]))>>=λ zz=>(((lk lc4 (nm "signs"))>>=λ v102=>(methA tb0 v102 (nm "append")>>=λ m103=>(seqA [((((lk lc4 (nm "self"))>>=λ v104=>(attrA tb0 v104 (nm "text"))))>>=λ v105=>((((lk lc4 (nm "self"))>>=λ v106=>(attrA tb0 v106 (nm "at"))))>>=λ v107=>(subA v105 v107)))]>>=λ vs108=>callM ⟨tb0,c,fuel⟩ m103 v102 vs108)))>>=λ zz=>((((((lk lc4 (nm "self"))>>=λ v109=>(attrA tb0 v109 (nm "at"))))>>=λ v110=>(binA .Add v110 (.int 1))))>>=λ x111=>((lk lc4 (nm "self"))>>=λ v112=>(setAttrA tb0 v112 (nm "at") x111>>=λ zz=>(kk5 lc4))))))
noncomputable def K559_f10 (lc4:Lc) (c:CC) (fuel:Nat) (kk5:Lc→PM AV):PM AV:=
 (((lk lc4 (nm "signs"))>>=λ v113=>(methA tb0 v113 (nm "append")>>=λ m114=>(seqA [((((lk lc4 (nm "self"))>>=λ v115=>(attrA tb0 v115 (nm "text"))))>>=λ v116=>((((lk lc4 (nm "self"))>>=λ v117=>(attrA tb0 v117 (nm "at"))))>>=λ v118=>(subA v116 v118)))]>>=λ vs119=>callM ⟨tb0,c,fuel⟩ m114 v113 vs119)))>>=λ zz=>((((((lk lc4 (nm "self"))>>=λ v120=>(attrA tb0 v120 (nm "at"))))>>=λ v121=>(binA .Add v121 (.int 1))))>>=λ x122=>((lk lc4 (nm "self"))>>=λ v123=>(setAttrA tb0 v123 (nm "at") x122>>=λ zz=>(kk5 lc4)))))
noncomputable def K559_f11 (lc4:Lc) (c:CC) (fuel:Nat) (kk5:Lc→PM AV):PM AV:=
 (((((((lk lc4 (nm "self"))>>=λ v95=>(attrA tb0 v95 (nm "text"))))>>=λ v96=>((((lk lc4 (nm "self"))>>=λ v97=>(attrA tb0 v97 (nm "at"))))>>=λ v98=>(subA v96 v98))))>>=λ v99=>(cmpA .Eq v99 (.str [10])))>>=λ tc=>match tc with
 | true=>(K559_t9 lc4 c fuel kk5)
 | false=>(K559_f10 lc4 c fuel kk5))
noncomputable def K559_t12 (lc4:Lc) (c:CC) (fuel:Nat):PM AV:=
 (((lk lc4 (nm "self"))>>=λ v137=>(methA tb0 v137 (nm "refuse")>>=λ m138=>callM ⟨tb0,c,fuel⟩ m138 v137 [(.str [97,32,110,97,109,101,32,119,105,116,104,111,117,116,32,115,105,103,110,115])]))>>=λ zz=>(methA tb0 (.str []) (nm "join")>>=λ m139=>(seqA [lk lc4 (nm "signs")]>>=λ vs140=>callM ⟨tb0,c,fuel⟩ m139 (.str []) vs140)))
noncomputable def K559_133 (lc4:Lc) (x133:AV) (c:CC) (fuel:Nat):PM AV:=
 ((lk lc4 (nm "self"))>>=λ v134=>(setAttrA tb0 v134 (nm "at") x133>>=λ zz=>(((lk lc4 (nm "signs"))>>=λ v135=>(((newL []))>>=λ v136=>(cmpA .Eq v135 v136)))>>=λ tc=>match tc with
 | true=>(K559_t12 lc4 c fuel)
 | false=>(methA tb0 (.str []) (nm "join")>>=λ m141=>(seqA [lk lc4 (nm "signs")]>>=λ vs142=>callM ⟨tb0,c,fuel⟩ m141 (.str []) vs142)))))
noncomputable def K559_t14 (lc4:Lc) (c:CC) (fuel:Nat):PM AV:=
 (((lk lc4 (nm "self"))>>=λ v129=>(methA tb0 v129 (nm "refuse")>>=λ m130=>callM ⟨tb0,c,fuel⟩ m130 v129 [(.str [97,32,110,97,109,101,32,104,97,115,32,110,111,32,101,110,100])]))>>=λ zz=>((((((lk lc4 (nm "self"))>>=λ v131=>(attrA tb0 v131 (nm "at"))))>>=λ v132=>(binA .Add v132 (.int 1))))>>=λ x133=>(K559_133 lc4 x133 c fuel)))
noncomputable def K559_t15 (lc4:Lc) (c:CC) (fuel:Nat):PM AV:=
 (((lk lc4 (nm "self"))>>=λ v149=>(methA tb0 v149 (nm "refuse")>>=λ m150=>callM ⟨tb0,c,fuel⟩ m150 v149 [(.str [97,32,110,97,109,101,32,119,105,116,104,111,117,116,32,115,105,103,110,115])]))>>=λ zz=>(methA tb0 (.str []) (nm "join")>>=λ m151=>(seqA [lk lc4 (nm "signs")]>>=λ vs152=>callM ⟨tb0,c,fuel⟩ m151 (.str []) vs152)))
noncomputable def K559_145 (lc4:Lc) (x145:AV) (c:CC) (fuel:Nat):PM AV:=
 ((lk lc4 (nm "self"))>>=λ v146=>(setAttrA tb0 v146 (nm "at") x145>>=λ zz=>(((lk lc4 (nm "signs"))>>=λ v147=>(((newL []))>>=λ v148=>(cmpA .Eq v147 v148)))>>=λ tc=>match tc with
 | true=>(K559_t15 lc4 c fuel)
 | false=>(methA tb0 (.str []) (nm "join")>>=λ m153=>(seqA [lk lc4 (nm "signs")]>>=λ vs154=>callM ⟨tb0,c,fuel⟩ m153 (.str []) vs154)))))
noncomputable def K559_f17 (lc4:Lc) (c:CC) (fuel:Nat):PM AV:=
 ((((((lk lc4 (nm "self"))>>=λ v143=>(attrA tb0 v143 (nm "at"))))>>=λ v144=>(binA .Add v144 (.int 1))))>>=λ x145=>(K559_145 lc4 x145 c fuel))
noncomputable def K559_3 (aC:AV) (x3:AV) (c:CC) (fuel:Nat) (x1:AV):PM AV:=
 (setAttrA tb0 aC (nm "at") x3>>=λ zz=>(loopN (λ lc4=>(boolT .And [((((lk lc4 (nm "self"))>>=λ v6=>(attrA tb0 v6 (nm "at"))))>>=λ v7=>(((seqA [((lk lc4 (nm "self"))>>=λ v8=>(attrA tb0 v8 (nm "text")))]>>=λ vs9=>(callB tb0 .len vs9)))>>=λ v10=>(cmpA .Lt v7 v10))),((((((lk lc4 (nm "self"))>>=λ v11=>(attrA tb0 v11 (nm "text"))))>>=λ v12=>((((lk lc4 (nm "self"))>>=λ v13=>(attrA tb0 v13 (nm "at"))))>>=λ v14=>(subA v12 v14))))>>=λ v15=>(cmpA .NotEq v15 (.str [124])))]))
 (λ lc4 kk5=>(((((((lk lc4 (nm "self"))>>=λ v16=>(attrA tb0 v16 (nm "text"))))>>=λ v17=>((((lk lc4 (nm "self"))>>=λ v18=>(attrA tb0 v18 (nm "at"))))>>=λ v19=>(subA v17 v19))))>>=λ v20=>(cmpA .Eq v20 (.str [92])))>>=λ tc=>match tc with
 | true=>(K559_t8 lc4 c fuel kk5)
 | false=>(K559_f11 lc4 c fuel kk5)))
 (λ lc4=>(((((lk lc4 (nm "self"))>>=λ v124=>(attrA tb0 v124 (nm "at"))))>>=λ v125=>(((seqA [((lk lc4 (nm "self"))>>=λ v126=>(attrA tb0 v126 (nm "text")))]>>=λ vs127=>(callB tb0 .len vs127)))>>=λ v128=>(cmpA .GtE v125 v128)))>>=λ tc=>match tc with
 | true=>(K559_t14 lc4 c fuel)
 | false=>(K559_f17 lc4 c fuel))) fuel [(nm "self",aC),(nm "signs",x1)]))
noncomputable def D559 (c:CC) (fuel:Nat) (aC:AV):PM AV:=
 (((newL []))>>=λ x1=>(((((attrA tb0 aC (nm "at")))>>=λ v2=>(binA .Add v2 (.int 1))))>>=λ x3=>(K559_3 aC x3 c fuel x1)))
theorem den_559 (d fuel:Nat) (aC:AV):callF tb0 fuel (d + 1) 559 [aC]=D559 (callF tb0 fuel d) fuel aC:=(callF_step ..).trans (by kernel_rfl)
noncomputable def D573 (c:CC) (fuel:Nat) (aB:AV) (bA:AV):PM AV:=
 (seqA [(pure bA),(attrA tb0 aB (nm "place"))]>>=λ vs1=>(raiseA tb0 (.val 397) vs1))
theorem den_573 (d fuel:Nat) (aB:AV) (bA:AV):callF tb0 fuel (d + 1) 573 [aB,bA]=D573 (callF tb0 fuel d) fuel aB bA:=(callF_step ..).trans (by kernel_rfl)
noncomputable def D580 (c:CC) (fuel:Nat) (aE:AV) (aP:AV):PM AV:=
 boolA .And [(callB tb0 .isinstance [aE,(.val 417)]),(((attrA tb0 aE (nm "kind")))>>=λ v1=>((cmpA .Eq v1 aP)>>=λ b=>pure (.bool b)))]
theorem den_580 (d fuel:Nat) (aE:AV) (aP:AV):callF tb0 fuel (d + 1) 580 [aE,aP]=D580 (callF tb0 fuel d) fuel aE aP:=(callF_step ..).trans (by kernel_rfl)
noncomputable def K587_t1 (c:CC) (aB:AV) (aF:AV):PM AV:=
 ((c 573 [aB,(.str [97,32,110,97,109,101,32,105,115,32,119,97,110,116,101,100])])>>=λ zz=>(((((attrA tb0 aB (nm "items")))>>=λ v6=>(subA v6 aF)))>>=λ v7=>(attrA tb0 v7 (nm "value"))))
noncomputable def D587 (c:CC) (fuel:Nat) (aB:AV) (aF:AV):PM AV:=
 ((boolT .Or [(((seqA [(attrA tb0 aB (nm "items"))]>>=λ vs1=>(callB tb0 .len vs1)))>>=λ v2=>(cmpA .GtE aF v2)),((((seqA [(((attrA tb0 aB (nm "items")))>>=λ v3=>(subA v3 aF)),(pure (.str [110,97,109,101]))]>>=λ vs4=>(c 580 vs4)))>>=λ v5=>(truthA v5))>>=λ b=>pure !b)])>>=λ tc=>match tc with
 | true=>(K587_t1 c aB aF)
 | false=>(((((attrA tb0 aB (nm "items")))>>=λ v8=>(subA v8 aF)))>>=λ v9=>(attrA tb0 v9 (nm "value"))))
theorem den_587 (d fuel:Nat) (aB:AV) (aF:AV):callF tb0 fuel (d + 1) 587 [aB,aF]=D587 (callF tb0 fuel d) fuel aB aF:=(callF_step ..).trans (by kernel_rfl)
noncomputable def K594_f1 (c:CC) (aB:AV):PM AV:=
 ((c 573 [aB,(.str [97,110,32,101,120,112,114,101,115,115,105,111,110,32,105,115,32,119,97,110,116,101,100])])>>=λ zz=>(pure .none))
noncomputable def K594_f2 (x4:AV) (c:CC) (aB:AV):PM AV:=
 ((((callB tb0 .isinstance [x4,(.tup [(.val 101),(.val 141),(.val 183),(.val 221),(.val 282),(.val 322),(.val 362)])]))>>=λ v7=>(truthA v7))>>=λ tc=>match tc with
 | true=>(pure x4)
 | false=>(K594_f1 c aB))
noncomputable def K594_4 (c:CC) (x4:AV) (aB:AV):PM AV:=
 ((((c 580 [x4,(.str [110,97,109,101])]))>>=λ v5=>(truthA v5))>>=λ tc=>match tc with
 | true=>(seqA [(attrA tb0 x4 (nm "value"))]>>=λ vs6=>(c 59 vs6))
 | false=>(K594_f2 x4 c aB))
noncomputable def K594_f4 (c:CC) (aB:AV):PM AV:=
 ((c 573 [aB,(.str [97,110,32,101,120,112,114,101,115,115,105,111,110,32,105,115,32,119,97,110,116,101,100])])>>=λ zz=>(pure .none))
noncomputable def D594 (c:CC) (fuel:Nat) (aB:AV) (aF:AV):PM AV:=
 ((((seqA [(attrA tb0 aB (nm "items"))]>>=λ vs1=>(callB tb0 .len vs1)))>>=λ v2=>(cmpA .Lt aF v2))>>=λ tc=>match tc with
 | true=>(((((attrA tb0 aB (nm "items")))>>=λ v3=>(subA v3 aF)))>>=λ x4=>(K594_4 c x4 aB))
 | false=>(K594_f4 c aB))
theorem den_594 (d fuel:Nat) (aB:AV) (aF:AV):callF tb0 fuel (d + 1) 594 [aB,aF]=D594 (callF tb0 fuel d) fuel aB aF:=(callF_step ..).trans (by kernel_rfl)
noncomputable def D599 (c:CC) (fuel:Nat) (aB:AV) (aF:AV):PM AV:=
 (((seqA [(pure aF),(seqA [(attrA tb0 aB (nm "items"))]>>=λ vs2=>(callB tb0 .len vs2))]>>=λ vs3=>(callB tb0 .range vs3)))>>=λ v4=>(srcOf v4>>=λ src=>goN (λ x1=>((c 594 [aB,x1])>>=λ y=>pure [y])) src fuel 0>>=λ vs=>newL vs))
theorem den_599 (d fuel:Nat) (aB:AV) (aF:AV):callF tb0 fuel (d + 1) 599 [aB,aF]=D599 (callF tb0 fuel d) fuel aB aF:=(callF_step ..).trans (by kernel_rfl)
noncomputable def K604_7 (x7:AV) (c:CC) (fuel:Nat):PM AV:=
 (((seqA [(seqA [(attrA tb0 x7 (nm "items"))]>>=λ vs9=>(callB tb0 .len vs9))]>>=λ vs10=>(callB tb0 .range vs10)))>>=λ v11=>(srcOf v11>>=λ src=>goN (λ x8=>((c 587 [x7,x8])>>=λ y=>pure [y])) src fuel 0>>=λ vs=>newL vs))
noncomputable def K604_t2 (c:CC) (aB:AV) (aF:AV) (fuel:Nat):PM AV:=
 ((c 573 [aB,(.str [97,32,108,105,115,116,32,111,102,32,110,97,109,101,115,32,105,115,32,119,97,110,116,101,100])])>>=λ zz=>(((((attrA tb0 aB (nm "items")))>>=λ v6=>(subA v6 aF)))>>=λ x7=>(K604_7 x7 c fuel)))
noncomputable def K604_13 (x13:AV) (c:CC) (fuel:Nat):PM AV:=
 (((seqA [(seqA [(attrA tb0 x13 (nm "items"))]>>=λ vs15=>(callB tb0 .len vs15))]>>=λ vs16=>(callB tb0 .range vs16)))>>=λ v17=>(srcOf v17>>=λ src=>goN (λ x14=>((c 587 [x13,x14])>>=λ y=>pure [y])) src fuel 0>>=λ vs=>newL vs))
noncomputable def D604 (c:CC) (fuel:Nat) (aB:AV) (aF:AV):PM AV:=
 ((boolT .Or [(((seqA [(attrA tb0 aB (nm "items"))]>>=λ vs1=>(callB tb0 .len vs1)))>>=λ v2=>(cmpA .GtE aF v2)),((((seqA [(((attrA tb0 aB (nm "items")))>>=λ v3=>(subA v3 aF)),(pure (.val 438))]>>=λ vs4=>(callB tb0 .isinstance vs4)))>>=λ v5=>(truthA v5))>>=λ b=>pure !b)])>>=λ tc=>match tc with
 | true=>(K604_t2 c aB aF fuel)
 | false=>(((((attrA tb0 aB (nm "items")))>>=λ v12=>(subA v12 aF)))>>=λ x13=>(K604_13 x13 c fuel)))
theorem den_604 (d fuel:Nat) (aB:AV) (aF:AV):callF tb0 fuel (d + 1) 604 [aB,aF]=D604 (callF tb0 fuel d) fuel aB aF:=(callF_step ..).trans (by kernel_rfl)
noncomputable def D611 (c:CC) (fuel:Nat) (aB:AV):PM AV:=
 ((c 625 [aB,(.int 2),(.int 2)])>>=λ zz=>(seqA [(c 587 [aB,(.int 0)]),(c 594 [aB,(.int 1)])]>>=λ vs1=>(c 459 vs1)))
theorem den_611 (d fuel:Nat) (aB:AV):callF tb0 fuel (d + 1) 611 [aB]=D611 (callF tb0 fuel d) fuel aB:=(callF_step ..).trans (by kernel_rfl)
noncomputable def K618_17 (lc9:Lc) (v11:AV) (x17:AV) (c:CC) (fuel:Nat) (kk10:Lc→PM AV):PM AV:=
 (((lk (kvSet (kvSet lc9 (nm "item") v11) (nm "bind") x17) (nm "found"))>>=λ v18=>(methA tb0 v18 (nm "append")>>=λ m19=>(seqA [(seqA [((lk (kvSet (kvSet lc9 (nm "item") v11) (nm "bind") x17) (nm "bind"))>>=λ v22=>(attrA tb0 v22 (nm "name"))),((lk (kvSet (kvSet lc9 (nm "item") v11) (nm "bind") x17) (nm "bind"))>>=λ v23=>(attrA tb0 v23 (nm "body")))]>>=λ vs24=>(if vs24.length≤maxLen then pure (.tup vs24) else PM.fail))]>>=λ vs25=>callM ⟨tb0,c,fuel⟩ m19 v18 vs25)))>>=λ zz=>(kk10 (kvSet (kvSet lc9 (nm "item") v11) (nm "bind") x17)))
noncomputable def K618_t2 (lc9:Lc) (v11:AV) (c:CC) (fuel:Nat) (kk10:Lc→PM AV):PM AV:=
 ((seqA [lk (kvSet lc9 (nm "item") v11) (nm "inner"),(pure (.str [97,32,98,105,110,100,32,105,115,32,119,97,110,116,101,100]))]>>=λ vs15=>(c 573 vs15))>>=λ zz=>(((seqA [lk (kvSet lc9 (nm "item") v11) (nm "item")]>>=λ vs16=>(c 611 vs16)))>>=λ x17=>(K618_17 lc9 v11 x17 c fuel kk10)))
noncomputable def K618_27 (lc9:Lc) (v11:AV) (x27:AV) (c:CC) (fuel:Nat) (kk10:Lc→PM AV):PM AV:=
 (((lk (kvSet (kvSet lc9 (nm "item") v11) (nm "bind") x27) (nm "found"))>>=λ v28=>(methA tb0 v28 (nm "append")>>=λ m29=>(seqA [(seqA [((lk (kvSet (kvSet lc9 (nm "item") v11) (nm "bind") x27) (nm "bind"))>>=λ v32=>(attrA tb0 v32 (nm "name"))),((lk (kvSet (kvSet lc9 (nm "item") v11) (nm "bind") x27) (nm "bind"))>>=λ v33=>(attrA tb0 v33 (nm "body")))]>>=λ vs34=>(if vs34.length≤maxLen then pure (.tup vs34) else PM.fail))]>>=λ vs35=>callM ⟨tb0,c,fuel⟩ m29 v28 vs35)))>>=λ zz=>(kk10 (kvSet (kvSet lc9 (nm "item") v11) (nm "bind") x27)))
noncomputable def K618_8 (x7:AV) (c:CC) (fuel:Nat) (aB:AV) (aF:AV) (x8:AV):PM AV:=
 (((attrA tb0 x7 (nm "items")))>>=λ v12=>(srcOf v12>>=λ src=>forN (λ v11 lc9 kk10=>(((((seqA [lk (kvSet lc9 (nm "item") v11) (nm "item"),(pure (.val 438))]>>=λ vs13=>(callB tb0 .isinstance vs13)))>>=λ v14=>(truthA v14))>>=λ b=>pure !b)>>=λ tc=>match tc with
 | true=>(K618_t2 lc9 v11 c fuel kk10)
 | false=>(((seqA [lk (kvSet lc9 (nm "item") v11) (nm "item")]>>=λ vs26=>(c 611 vs26)))>>=λ x27=>(K618_27 lc9 v11 x27 c fuel kk10))))
 (λ lc9=>lk lc9 (nm "found")) src fuel 0 [(nm "opened",aB),(nm "at",aF),(nm "inner",x7),(nm "found",x8)]))
noncomputable def K618_t5 (c:CC) (aB:AV) (aF:AV) (fuel:Nat):PM AV:=
 ((c 573 [aB,(.str [97,32,108,105,115,116,32,111,102,32,98,105,110,100,115,32,105,115,32,119,97,110,116,101,100])])>>=λ zz=>(((((attrA tb0 aB (nm "items")))>>=λ v6=>(subA v6 aF)))>>=λ x7=>(((newL []))>>=λ x8=>(K618_8 x7 c fuel aB aF x8))))
noncomputable def K618_47 (lc39:Lc) (v41:AV) (x47:AV) (c:CC) (fuel:Nat) (kk40:Lc→PM AV):PM AV:=
 (((lk (kvSet (kvSet lc39 (nm "item") v41) (nm "bind") x47) (nm "found"))>>=λ v48=>(methA tb0 v48 (nm "append")>>=λ m49=>(seqA [(seqA [((lk (kvSet (kvSet lc39 (nm "item") v41) (nm "bind") x47) (nm "bind"))>>=λ v52=>(attrA tb0 v52 (nm "name"))),((lk (kvSet (kvSet lc39 (nm "item") v41) (nm "bind") x47) (nm "bind"))>>=λ v53=>(attrA tb0 v53 (nm "body")))]>>=λ vs54=>(if vs54.length≤maxLen then pure (.tup vs54) else PM.fail))]>>=λ vs55=>callM ⟨tb0,c,fuel⟩ m49 v48 vs55)))>>=λ zz=>(kk40 (kvSet (kvSet lc39 (nm "item") v41) (nm "bind") x47)))
noncomputable def K618_t7 (lc39:Lc) (v41:AV) (c:CC) (fuel:Nat) (kk40:Lc→PM AV):PM AV:=
 ((seqA [lk (kvSet lc39 (nm "item") v41) (nm "inner"),(pure (.str [97,32,98,105,110,100,32,105,115,32,119,97,110,116,101,100]))]>>=λ vs45=>(c 573 vs45))>>=λ zz=>(((seqA [lk (kvSet lc39 (nm "item") v41) (nm "item")]>>=λ vs46=>(c 611 vs46)))>>=λ x47=>(K618_47 lc39 v41 x47 c fuel kk40)))
noncomputable def K618_57 (lc39:Lc) (v41:AV) (x57:AV) (c:CC) (fuel:Nat) (kk40:Lc→PM AV):PM AV:=
 (((lk (kvSet (kvSet lc39 (nm "item") v41) (nm "bind") x57) (nm "found"))>>=λ v58=>(methA tb0 v58 (nm "append")>>=λ m59=>(seqA [(seqA [((lk (kvSet (kvSet lc39 (nm "item") v41) (nm "bind") x57) (nm "bind"))>>=λ v62=>(attrA tb0 v62 (nm "name"))),((lk (kvSet (kvSet lc39 (nm "item") v41) (nm "bind") x57) (nm "bind"))>>=λ v63=>(attrA tb0 v63 (nm "body")))]>>=λ vs64=>(if vs64.length≤maxLen then pure (.tup vs64) else PM.fail))]>>=λ vs65=>callM ⟨tb0,c,fuel⟩ m59 v58 vs65)))>>=λ zz=>(kk40 (kvSet (kvSet lc39 (nm "item") v41) (nm "bind") x57)))
noncomputable def K618_38 (x37:AV) (c:CC) (fuel:Nat) (aB:AV) (aF:AV) (x38:AV):PM AV:=
 (((attrA tb0 x37 (nm "items")))>>=λ v42=>(srcOf v42>>=λ src=>forN (λ v41 lc39 kk40=>(((((seqA [lk (kvSet lc39 (nm "item") v41) (nm "item"),(pure (.val 438))]>>=λ vs43=>(callB tb0 .isinstance vs43)))>>=λ v44=>(truthA v44))>>=λ b=>pure !b)>>=λ tc=>match tc with
 | true=>(K618_t7 lc39 v41 c fuel kk40)
 | false=>(((seqA [lk (kvSet lc39 (nm "item") v41) (nm "item")]>>=λ vs56=>(c 611 vs56)))>>=λ x57=>(K618_57 lc39 v41 x57 c fuel kk40))))
 (λ lc39=>lk lc39 (nm "found")) src fuel 0 [(nm "opened",aB),(nm "at",aF),(nm "inner",x37),(nm "found",x38)]))
noncomputable def K618_f10 (aB:AV) (aF:AV) (c:CC) (fuel:Nat):PM AV:=
 (((((attrA tb0 aB (nm "items")))>>=λ v36=>(subA v36 aF)))>>=λ x37=>(((newL []))>>=λ x38=>(K618_38 x37 c fuel aB aF x38)))
noncomputable def D618 (c:CC) (fuel:Nat) (aB:AV) (aF:AV):PM AV:=
 ((boolT .Or [(((seqA [(attrA tb0 aB (nm "items"))]>>=λ vs1=>(callB tb0 .len vs1)))>>=λ v2=>(cmpA .GtE aF v2)),((((seqA [(((attrA tb0 aB (nm "items")))>>=λ v3=>(subA v3 aF)),(pure (.val 438))]>>=λ vs4=>(callB tb0 .isinstance vs4)))>>=λ v5=>(truthA v5))>>=λ b=>pure !b)])>>=λ tc=>match tc with
 | true=>(K618_t5 c aB aF fuel)
 | false=>(K618_f10 aB aF c fuel))
theorem den_618 (d fuel:Nat) (aB:AV) (aF:AV):callF tb0 fuel (d + 1) 618 [aB,aF]=D618 (callF tb0 fuel d) fuel aB aF:=(callF_step ..).trans (by kernel_rfl)
noncomputable def K625_t1 (c:CC) (aB:AV):PM AV:=
 ((c 573 [aB,(.str [97,32,108,105,115,116,32,104,97,115,32,116,111,111,32,102,101,119,32,111,114,32,116,111,111,32,109,97,110,121,32,112,97,114,116,115])])>>=λ zz=>(pure .none))
noncomputable def D625 (c:CC) (fuel:Nat) (aB:AV) (bC:AV) (aY:AV):PM AV:=
 (((chainA bC [.LtE,.LtE] [(seqA [(attrA tb0 aB (nm "items"))]>>=λ vs1=>(callB tb0 .len vs1)),(pure aY)])>>=λ b=>pure !b)>>=λ tc=>match tc with
 | true=>(K625_t1 c aB)
 | false=>(pure .none))
theorem den_625 (d fuel:Nat) (aB:AV) (bC:AV) (aY:AV):callF tb0 fuel (d + 1) 625 [aB,bC,aY]=D625 (callF tb0 fuel d) fuel aB bC aY:=(callF_step ..).trans (by kernel_rfl)
noncomputable def K632_t1 (c:CC) (aB:AV) (aG:AV) (x6:AV):PM AV:=
 ((c 573 [aB,(.str [116,104,101,114,101,32,105,115,32,110,111,32,115,117,99,104,32,115,105,103,110])])>>=λ zz=>(seqA [(pure aG),((cmpA .Eq aG (.str [99,104,97,114]))>>=λ tc=>match tc with | true=>(callB tb0 .chr [x6]) | false=>(pure x6))]>>=λ vs7=>(c 101 vs7)))
noncomputable def K632_f2 (aG:AV) (x6:AV) (c:CC):PM AV:=
 (seqA [(pure aG),((cmpA .Eq aG (.str [99,104,97,114]))>>=λ tc=>match tc with | true=>(callB tb0 .chr [x6]) | false=>(pure x6))]>>=λ vs8=>(c 101 vs8))
noncomputable def K632_6 (aG:AV) (x6:AV) (c:CC) (aB:AV):PM AV:=
 ((boolT .And [(cmpA .Eq aG (.str [99,104,97,114])),((chainA (.int 0) [.LtE,.Lt] [(pure x6),(pure (.int 1114112))])>>=λ b=>pure !b)])>>=λ tc=>match tc with
 | true=>(K632_t1 c aB aG x6)
 | false=>(K632_f2 aG x6 c))
noncomputable def K632_t4 (c:CC) (aB:AV) (aG:AV):PM AV:=
 ((c 573 [aB,(.str [97,32,110,117,109,98,101,114,32,105,115,32,119,97,110,116,101,100])])>>=λ zz=>(((((((attrA tb0 aB (nm "items")))>>=λ v4=>(subA v4 (.int 1))))>>=λ v5=>(attrA tb0 v5 (nm "value"))))>>=λ x6=>(K632_6 aG x6 c aB)))
noncomputable def K632_t5 (c:CC) (aB:AV) (aG:AV) (x11:AV):PM AV:=
 ((c 573 [aB,(.str [116,104,101,114,101,32,105,115,32,110,111,32,115,117,99,104,32,115,105,103,110])])>>=λ zz=>(seqA [(pure aG),((cmpA .Eq aG (.str [99,104,97,114]))>>=λ tc=>match tc with | true=>(callB tb0 .chr [x11]) | false=>(pure x11))]>>=λ vs12=>(c 101 vs12)))
noncomputable def K632_f6 (aG:AV) (x11:AV) (c:CC):PM AV:=
 (seqA [(pure aG),((cmpA .Eq aG (.str [99,104,97,114]))>>=λ tc=>match tc with | true=>(callB tb0 .chr [x11]) | false=>(pure x11))]>>=λ vs13=>(c 101 vs13))
noncomputable def K632_11 (aG:AV) (x11:AV) (c:CC) (aB:AV):PM AV:=
 ((boolT .And [(cmpA .Eq aG (.str [99,104,97,114])),((chainA (.int 0) [.LtE,.Lt] [(pure x11),(pure (.int 1114112))])>>=λ b=>pure !b)])>>=λ tc=>match tc with
 | true=>(K632_t5 c aB aG x11)
 | false=>(K632_f6 aG x11 c))
noncomputable def K632_f8 (aB:AV) (aG:AV) (c:CC):PM AV:=
 (((((((attrA tb0 aB (nm "items")))>>=λ v9=>(subA v9 (.int 1))))>>=λ v10=>(attrA tb0 v10 (nm "value"))))>>=λ x11=>(K632_11 aG x11 c aB))
noncomputable def D632 (c:CC) (fuel:Nat) (aB:AV) (aG:AV):PM AV:=
 ((c 625 [aB,(.int 2),(.int 2)])>>=λ zz=>(((((seqA [(((attrA tb0 aB (nm "items")))>>=λ v1=>(subA v1 (.int 1))),(pure (.str [110,117,109,98,101,114]))]>>=λ vs2=>(c 580 vs2)))>>=λ v3=>(truthA v3))>>=λ b=>pure !b)>>=λ tc=>match tc with
 | true=>(K632_t4 c aB aG)
 | false=>(K632_f8 aB aG c)))
theorem den_632 (d fuel:Nat) (aB:AV) (aG:AV):callF tb0 fuel (d + 1) 632 [aB,aG]=D632 (callF tb0 fuel d) fuel aB aG:=(callF_step ..).trans (by kernel_rfl)
noncomputable def K639_t1 (c:CC) (aB:AV) (x1:AV) (aQ:AV):PM AV:=
 ((c 573 [aB,(.str [97,32,108,101,116,32,119,105,116,104,111,117,116,32,98,105,110,100,115])])>>=λ zz=>(seqA [(pure x1),(c 594 [aB,(.int 2)]),(pure aQ)]>>=λ vs3=>(c 221 vs3)))
noncomputable def K639_1 (x1:AV) (c:CC) (aB:AV) (aQ:AV):PM AV:=
 ((((newL []))>>=λ v2=>(cmpA .Eq x1 v2))>>=λ tc=>match tc with
 | true=>(K639_t1 c aB x1 aQ)
 | false=>(seqA [(pure x1),(c 594 [aB,(.int 2)]),(pure aQ)]>>=λ vs4=>(c 221 vs4)))
noncomputable def D639 (c:CC) (fuel:Nat) (aB:AV) (aQ:AV):PM AV:=
 ((c 625 [aB,(.int 3),(.int 3)])>>=λ zz=>(((c 618 [aB,(.int 1)]))>>=λ x1=>(K639_1 x1 c aB aQ)))
theorem den_639 (d fuel:Nat) (aB:AV) (aQ:AV):callF tb0 fuel (d + 1) 639 [aB,aQ]=D639 (callF tb0 fuel d) fuel aB aQ:=(callF_step ..).trans (by kernel_rfl)
noncomputable def K646_t1 (c:CC) (aB:AV) (x1:AV):PM AV:=
 ((c 573 [aB,(.str [97,32,102,117,110,99,116,105,111,110,32,119,105,116,104,111,117,116,32,112,97,114,97,109,101,116,101,114,115])])>>=λ zz=>(seqA [(pure x1),(c 594 [aB,(.int 2)])]>>=λ vs3=>(c 183 vs3)))
noncomputable def K646_1 (x1:AV) (c:CC) (aB:AV):PM AV:=
 ((((newL []))>>=λ v2=>(cmpA .Eq x1 v2))>>=λ tc=>match tc with
 | true=>(K646_t1 c aB x1)
 | false=>(seqA [(pure x1),(c 594 [aB,(.int 2)])]>>=λ vs4=>(c 183 vs4)))
noncomputable def D646 (c:CC) (fuel:Nat) (aB:AV):PM AV:=
 ((c 625 [aB,(.int 3),(.int 3)])>>=λ zz=>(((c 604 [aB,(.int 1)]))>>=λ x1=>(K646_1 x1 c aB)))
theorem den_646 (d fuel:Nat) (aB:AV):callF tb0 fuel (d + 1) 646 [aB]=D646 (callF tb0 fuel d) fuel aB:=(callF_step ..).trans (by kernel_rfl)
noncomputable def K653_t1 (c:CC) (aB:AV):PM AV:=
 ((c 625 [aB,(.int 4),(.int 4)])>>=λ zz=>(seqA [(seqA [(pure (.str [99,111,110])),(c 587 [aB,(.int 1)])]>>=λ vs1=>(if vs1.length≤maxLen then pure (.tup vs1) else PM.fail)),(c 604 [aB,(.int 2)]),(c 594 [aB,(.int 3)])]>>=λ vs2=>(c 242 vs2)))
noncomputable def K653_t2 (c:CC) (aB:AV) (x4:AV):PM AV:=
 ((c 573 [aB,(.str [97,32,108,105,116,101,114,97,108,32,105,115,32,119,97,110,116,101,100])])>>=λ zz=>(seqA [(seqA [(pure (.str [108,105,116])),(attrA tb0 x4 (nm "kind")),(attrA tb0 x4 (nm "value"))]>>=λ vs6=>(if vs6.length≤maxLen then pure (.tup vs6) else PM.fail)),(newL []),(c 594 [aB,(.int 2)])]>>=λ vs7=>(c 242 vs7)))
noncomputable def K653_f3 (x4:AV) (c:CC) (aB:AV):PM AV:=
 (seqA [(seqA [(pure (.str [108,105,116])),(attrA tb0 x4 (nm "kind")),(attrA tb0 x4 (nm "value"))]>>=λ vs8=>(if vs8.length≤maxLen then pure (.tup vs8) else PM.fail)),(newL []),(c 594 [aB,(.int 2)])]>>=λ vs9=>(c 242 vs9))
noncomputable def K653_4 (x4:AV) (c:CC) (aB:AV):PM AV:=
 (((((callB tb0 .isinstance [x4,(.val 101)]))>>=λ v5=>(truthA v5))>>=λ b=>pure !b)>>=λ tc=>match tc with
 | true=>(K653_t2 c aB x4)
 | false=>(K653_f3 x4 c aB))
noncomputable def K653_f5 (c:CC) (aB:AV):PM AV:=
 ((c 625 [aB,(.int 3),(.int 3)])>>=λ zz=>(((((attrA tb0 aB (nm "items")))>>=λ v3=>(subA v3 (.int 1))))>>=λ x4=>(K653_4 x4 c aB)))
noncomputable def D653 (c:CC) (fuel:Nat) (aB:AV) (aG:AV):PM AV:=
 ((cmpA .Eq aG (.str [111,102]))>>=λ tc=>match tc with
 | true=>(K653_t1 c aB)
 | false=>(K653_f5 c aB))
theorem den_653 (d fuel:Nat) (aB:AV) (aG:AV):callF tb0 fuel (d + 1) 653 [aB,aG]=D653 (callF tb0 fuel d) fuel aB aG:=(callF_step ..).trans (by kernel_rfl)
noncomputable def K658_t1 (c:CC) (aB:AV) (x2:AV) (x15:AV):PM AV:=
 ((c 573 [aB,(.str [97,32,99,97,115,101,32,119,105,116,104,111,117,116,32,97,108,116,101,114,110,97,116,105,118,101,115])])>>=λ zz=>(seqA [(c 594 [aB,(.int 1)]),(c 587 [aB,(.int 2)]),(seqA [(attrA tb0 x2 (nm "items"))]>>=λ vs18=>(callB tb0 .list vs18)),(pure x15)]>>=λ vs19=>(c 282 vs19)))
noncomputable def K658_f2 (c:CC) (aB:AV) (x2:AV) (x15:AV):PM AV:=
 (seqA [(c 594 [aB,(.int 1)]),(c 587 [aB,(.int 2)]),(seqA [(attrA tb0 x2 (nm "items"))]>>=λ vs20=>(callB tb0 .list vs20)),(pure x15)]>>=λ vs21=>(c 282 vs21))
noncomputable def K658_15 (x2:AV) (x15:AV) (c:CC) (aB:AV):PM AV:=
 ((boolT .And [(((attrA tb0 x2 (nm "items")))>>=λ v16=>(((newL []))>>=λ v17=>(cmpA .Eq v16 v17))),(cmpA .Is x15 .none)])>>=λ tc=>match tc with
 | true=>(K658_t1 c aB x2 x15)
 | false=>(K658_f2 c aB x2 x15))
noncomputable def K658_t4 (c:CC) (aB:AV) (x2:AV):PM AV:=
 ((c 573 [aB,(.str [97,110,32,101,108,115,101,32,105,115,32,119,97,110,116,101,100])])>>=λ zz=>(((((((attrA tb0 aB (nm "items")))>>=λ v13=>(subA v13 (.int 4))))>>=λ v14=>(attrA tb0 v14 (nm "body"))))>>=λ x15=>(K658_15 x2 x15 c aB)))
noncomputable def K658_t5 (c:CC) (aB:AV) (x2:AV) (x24:AV):PM AV:=
 ((c 573 [aB,(.str [97,32,99,97,115,101,32,119,105,116,104,111,117,116,32,97,108,116,101,114,110,97,116,105,118,101,115])])>>=λ zz=>(seqA [(c 594 [aB,(.int 1)]),(c 587 [aB,(.int 2)]),(seqA [(attrA tb0 x2 (nm "items"))]>>=λ vs27=>(callB tb0 .list vs27)),(pure x24)]>>=λ vs28=>(c 282 vs28)))
noncomputable def K658_f6 (c:CC) (aB:AV) (x2:AV) (x24:AV):PM AV:=
 (seqA [(c 594 [aB,(.int 1)]),(c 587 [aB,(.int 2)]),(seqA [(attrA tb0 x2 (nm "items"))]>>=λ vs29=>(callB tb0 .list vs29)),(pure x24)]>>=λ vs30=>(c 282 vs30))
noncomputable def K658_24 (x2:AV) (x24:AV) (c:CC) (aB:AV):PM AV:=
 ((boolT .And [(((attrA tb0 x2 (nm "items")))>>=λ v25=>(((newL []))>>=λ v26=>(cmpA .Eq v25 v26))),(cmpA .Is x24 .none)])>>=λ tc=>match tc with
 | true=>(K658_t5 c aB x2 x24)
 | false=>(K658_f6 c aB x2 x24))
noncomputable def K658_f8 (aB:AV) (x2:AV) (c:CC):PM AV:=
 (((((((attrA tb0 aB (nm "items")))>>=λ v22=>(subA v22 (.int 4))))>>=λ v23=>(attrA tb0 v23 (nm "body"))))>>=λ x24=>(K658_24 x2 x24 c aB))
noncomputable def K658_t9 (aB:AV) (c:CC) (x2:AV):PM AV:=
 (((((seqA [(((attrA tb0 aB (nm "items")))>>=λ v10=>(subA v10 (.int 4))),(pure (.val 480))]>>=λ vs11=>(callB tb0 .isinstance vs11)))>>=λ v12=>(truthA v12))>>=λ b=>pure !b)>>=λ tc=>match tc with
 | true=>(K658_t4 c aB x2)
 | false=>(K658_f8 aB x2 c))
noncomputable def K658_t10 (c:CC) (aB:AV) (x2:AV):PM AV:=
 ((c 573 [aB,(.str [97,32,99,97,115,101,32,119,105,116,104,111,117,116,32,97,108,116,101,114,110,97,116,105,118,101,115])])>>=λ zz=>(seqA [(c 594 [aB,(.int 1)]),(c 587 [aB,(.int 2)]),(seqA [(attrA tb0 x2 (nm "items"))]>>=λ vs33=>(callB tb0 .list vs33)),(pure .none)]>>=λ vs34=>(c 282 vs34)))
noncomputable def K658_f11 (c:CC) (aB:AV) (x2:AV):PM AV:=
 (seqA [(c 594 [aB,(.int 1)]),(c 587 [aB,(.int 2)]),(seqA [(attrA tb0 x2 (nm "items"))]>>=λ vs35=>(callB tb0 .list vs35)),(pure .none)]>>=λ vs36=>(c 282 vs36))
noncomputable def K658_f12 (x2:AV) (c:CC) (aB:AV):PM AV:=
 ((boolT .And [(((attrA tb0 x2 (nm "items")))>>=λ v31=>(((newL []))>>=λ v32=>(cmpA .Eq v31 v32))),(cmpA .Is .none .none)])>>=λ tc=>match tc with
 | true=>(K658_t10 c aB x2)
 | false=>(K658_f11 c aB x2))
noncomputable def K658_t13 (c:CC) (aB:AV) (x2:AV):PM AV:=
 ((c 573 [aB,(.str [97,32,108,105,115,116,32,111,102,32,97,108,116,101,114,110,97,116,105,118,101,115,32,105,115,32,119,97,110,116,101,100])])>>=λ zz=>((((seqA [(attrA tb0 aB (nm "items"))]>>=λ vs8=>(callB tb0 .len vs8)))>>=λ v9=>(cmpA .Eq v9 (.int 5)))>>=λ tc=>match tc with
 | true=>(K658_t9 aB c x2)
 | false=>(K658_f12 x2 c aB)))
noncomputable def K658_t14 (c:CC) (aB:AV) (x2:AV) (x44:AV):PM AV:=
 ((c 573 [aB,(.str [97,32,99,97,115,101,32,119,105,116,104,111,117,116,32,97,108,116,101,114,110,97,116,105,118,101,115])])>>=λ zz=>(seqA [(c 594 [aB,(.int 1)]),(c 587 [aB,(.int 2)]),(seqA [(attrA tb0 x2 (nm "items"))]>>=λ vs47=>(callB tb0 .list vs47)),(pure x44)]>>=λ vs48=>(c 282 vs48)))
noncomputable def K658_f15 (c:CC) (aB:AV) (x2:AV) (x44:AV):PM AV:=
 (seqA [(c 594 [aB,(.int 1)]),(c 587 [aB,(.int 2)]),(seqA [(attrA tb0 x2 (nm "items"))]>>=λ vs49=>(callB tb0 .list vs49)),(pure x44)]>>=λ vs50=>(c 282 vs50))
noncomputable def K658_44 (x2:AV) (x44:AV) (c:CC) (aB:AV):PM AV:=
 ((boolT .And [(((attrA tb0 x2 (nm "items")))>>=λ v45=>(((newL []))>>=λ v46=>(cmpA .Eq v45 v46))),(cmpA .Is x44 .none)])>>=λ tc=>match tc with
 | true=>(K658_t14 c aB x2 x44)
 | false=>(K658_f15 c aB x2 x44))
noncomputable def K658_t17 (c:CC) (aB:AV) (x2:AV):PM AV:=
 ((c 573 [aB,(.str [97,110,32,101,108,115,101,32,105,115,32,119,97,110,116,101,100])])>>=λ zz=>(((((((attrA tb0 aB (nm "items")))>>=λ v42=>(subA v42 (.int 4))))>>=λ v43=>(attrA tb0 v43 (nm "body"))))>>=λ x44=>(K658_44 x2 x44 c aB)))
noncomputable def K658_t18 (c:CC) (aB:AV) (x2:AV) (x53:AV):PM AV:=
 ((c 573 [aB,(.str [97,32,99,97,115,101,32,119,105,116,104,111,117,116,32,97,108,116,101,114,110,97,116,105,118,101,115])])>>=λ zz=>(seqA [(c 594 [aB,(.int 1)]),(c 587 [aB,(.int 2)]),(seqA [(attrA tb0 x2 (nm "items"))]>>=λ vs56=>(callB tb0 .list vs56)),(pure x53)]>>=λ vs57=>(c 282 vs57)))
noncomputable def K658_f19 (c:CC) (aB:AV) (x2:AV) (x53:AV):PM AV:=
 (seqA [(c 594 [aB,(.int 1)]),(c 587 [aB,(.int 2)]),(seqA [(attrA tb0 x2 (nm "items"))]>>=λ vs58=>(callB tb0 .list vs58)),(pure x53)]>>=λ vs59=>(c 282 vs59))
noncomputable def K658_53 (x2:AV) (x53:AV) (c:CC) (aB:AV):PM AV:=
 ((boolT .And [(((attrA tb0 x2 (nm "items")))>>=λ v54=>(((newL []))>>=λ v55=>(cmpA .Eq v54 v55))),(cmpA .Is x53 .none)])>>=λ tc=>match tc with
 | true=>(K658_t18 c aB x2 x53)
 | false=>(K658_f19 c aB x2 x53))
noncomputable def K658_f21 (aB:AV) (x2:AV) (c:CC):PM AV:=
 (((((((attrA tb0 aB (nm "items")))>>=λ v51=>(subA v51 (.int 4))))>>=λ v52=>(attrA tb0 v52 (nm "body"))))>>=λ x53=>(K658_53 x2 x53 c aB))
noncomputable def K658_t22 (aB:AV) (c:CC) (x2:AV):PM AV:=
 (((((seqA [(((attrA tb0 aB (nm "items")))>>=λ v39=>(subA v39 (.int 4))),(pure (.val 480))]>>=λ vs40=>(callB tb0 .isinstance vs40)))>>=λ v41=>(truthA v41))>>=λ b=>pure !b)>>=λ tc=>match tc with
 | true=>(K658_t17 c aB x2)
 | false=>(K658_f21 aB x2 c))
noncomputable def K658_t23 (c:CC) (aB:AV) (x2:AV):PM AV:=
 ((c 573 [aB,(.str [97,32,99,97,115,101,32,119,105,116,104,111,117,116,32,97,108,116,101,114,110,97,116,105,118,101,115])])>>=λ zz=>(seqA [(c 594 [aB,(.int 1)]),(c 587 [aB,(.int 2)]),(seqA [(attrA tb0 x2 (nm "items"))]>>=λ vs62=>(callB tb0 .list vs62)),(pure .none)]>>=λ vs63=>(c 282 vs63)))
noncomputable def K658_f24 (c:CC) (aB:AV) (x2:AV):PM AV:=
 (seqA [(c 594 [aB,(.int 1)]),(c 587 [aB,(.int 2)]),(seqA [(attrA tb0 x2 (nm "items"))]>>=λ vs64=>(callB tb0 .list vs64)),(pure .none)]>>=λ vs65=>(c 282 vs65))
noncomputable def K658_f25 (x2:AV) (c:CC) (aB:AV):PM AV:=
 ((boolT .And [(((attrA tb0 x2 (nm "items")))>>=λ v60=>(((newL []))>>=λ v61=>(cmpA .Eq v60 v61))),(cmpA .Is .none .none)])>>=λ tc=>match tc with
 | true=>(K658_t23 c aB x2)
 | false=>(K658_f24 c aB x2))
noncomputable def K658_f26 (aB:AV) (c:CC) (x2:AV):PM AV:=
 ((((seqA [(attrA tb0 aB (nm "items"))]>>=λ vs37=>(callB tb0 .len vs37)))>>=λ v38=>(cmpA .Eq v38 (.int 5)))>>=λ tc=>match tc with
 | true=>(K658_t22 aB c x2)
 | false=>(K658_f25 x2 c aB))
noncomputable def K658_2 (x2:AV) (fuel:Nat) (c:CC) (aB:AV):PM AV:=
 ((boolT .Or [((((callB tb0 .isinstance [x2,(.val 438)]))>>=λ v3=>(truthA v3))>>=λ b=>pure !b),((((seqA [(((attrA tb0 x2 (nm "items")))>>=λ v5=>(srcOf v5>>=λ src=>goN (λ x4=>((callB tb0 .isinstance [x4,(.val 242)])>>=λ y=>pure [y])) src fuel 0>>=λ vs=>newL vs))]>>=λ vs6=>(callB tb0 .all vs6)))>>=λ v7=>(truthA v7))>>=λ b=>pure !b)])>>=λ tc=>match tc with
 | true=>(K658_t13 c aB x2)
 | false=>(K658_f26 aB c x2))
noncomputable def D658 (c:CC) (fuel:Nat) (aB:AV):PM AV:=
 ((c 625 [aB,(.int 4),(.int 5)])>>=λ zz=>(((((attrA tb0 aB (nm "items")))>>=λ v1=>(subA v1 (.int 3))))>>=λ x2=>(K658_2 x2 fuel c aB)))
theorem den_658 (d fuel:Nat) (aB:AV):callF tb0 fuel (d + 1) 658 [aB]=D658 (callF tb0 fuel d) fuel aB:=(callF_step ..).trans (by kernel_rfl)
noncomputable def K665_11 (lc2:Lc) (v4:AV) (x11:AV) (c:CC) (fuel:Nat) (kk3:Lc→PM AV):PM AV:=
 (((lk (kvSet (kvSet lc2 (nm "item") v4) (nm "bind") x11) (nm "binds"))>>=λ v12=>(methA tb0 v12 (nm "append")>>=λ m13=>(seqA [(seqA [((lk (kvSet (kvSet lc2 (nm "item") v4) (nm "bind") x11) (nm "bind"))>>=λ v16=>(attrA tb0 v16 (nm "name"))),((lk (kvSet (kvSet lc2 (nm "item") v4) (nm "bind") x11) (nm "bind"))>>=λ v17=>(attrA tb0 v17 (nm "body")))]>>=λ vs18=>(if vs18.length≤maxLen then pure (.tup vs18) else PM.fail))]>>=λ vs19=>callM ⟨tb0,c,fuel⟩ m13 v12 vs19)))>>=λ zz=>(kk3 (kvSet (kvSet lc2 (nm "item") v4) (nm "bind") x11)))
noncomputable def K665_t2 (lc2:Lc) (v4:AV) (c:CC) (fuel:Nat) (kk3:Lc→PM AV):PM AV:=
 ((seqA [lk (kvSet lc2 (nm "item") v4) (nm "opened"),(pure (.str [97,32,98,105,110,100,32,105,115,32,119,97,110,116,101,100]))]>>=λ vs9=>(c 573 vs9))>>=λ zz=>(((seqA [lk (kvSet lc2 (nm "item") v4) (nm "item")]>>=λ vs10=>(c 611 vs10)))>>=λ x11=>(K665_11 lc2 v4 x11 c fuel kk3)))
noncomputable def K665_21 (lc2:Lc) (v4:AV) (x21:AV) (c:CC) (fuel:Nat) (kk3:Lc→PM AV):PM AV:=
 (((lk (kvSet (kvSet lc2 (nm "item") v4) (nm "bind") x21) (nm "binds"))>>=λ v22=>(methA tb0 v22 (nm "append")>>=λ m23=>(seqA [(seqA [((lk (kvSet (kvSet lc2 (nm "item") v4) (nm "bind") x21) (nm "bind"))>>=λ v26=>(attrA tb0 v26 (nm "name"))),((lk (kvSet (kvSet lc2 (nm "item") v4) (nm "bind") x21) (nm "bind"))>>=λ v27=>(attrA tb0 v27 (nm "body")))]>>=λ vs28=>(if vs28.length≤maxLen then pure (.tup vs28) else PM.fail))]>>=λ vs29=>callM ⟨tb0,c,fuel⟩ m23 v22 vs29)))>>=λ zz=>(kk3 (kvSet (kvSet lc2 (nm "item") v4) (nm "bind") x21)))
noncomputable def K665_1 (aB:AV) (c:CC) (fuel:Nat) (x1:AV):PM AV:=
 (((((attrA tb0 aB (nm "items")))>>=λ v5=>(sliceA v5 (.int 2) .none)))>>=λ v6=>(srcOf v6>>=λ src=>forN (λ v4 lc2 kk3=>(((((seqA [lk (kvSet lc2 (nm "item") v4) (nm "item"),(pure (.val 438))]>>=λ vs7=>(callB tb0 .isinstance vs7)))>>=λ v8=>(truthA v8))>>=λ b=>pure !b)>>=λ tc=>match tc with
 | true=>(K665_t2 lc2 v4 c fuel kk3)
 | false=>(((seqA [lk (kvSet lc2 (nm "item") v4) (nm "item")]>>=λ vs20=>(c 611 vs20)))>>=λ x21=>(K665_21 lc2 v4 x21 c fuel kk3))))
 (λ lc2=>(seqA [(seqA [lk lc2 (nm "opened"),(pure (.int 1))]>>=λ vs30=>(c 587 vs30)),lk lc2 (nm "binds")]>>=λ vs31=>(c 501 vs31))) src fuel 0 [(nm "opened",aB),(nm "binds",x1)]))
noncomputable def D665 (c:CC) (fuel:Nat) (aB:AV):PM AV:=
 (((newL []))>>=λ x1=>(K665_1 aB c fuel x1))
theorem den_665 (d fuel:Nat) (aB:AV):callF tb0 fuel (d + 1) 665 [aB]=D665 (callF tb0 fuel d) fuel aB:=(callF_step ..).trans (by kernel_rfl)
noncomputable def K672 (c:CC) (fuel:Nat) (aB x8:AV):PM AV:=
 ((boolT .Or [(cmpA .Eq x8 (.str [105,110,116])),(cmpA .Eq x8 (.str [99,104,97,114]))])>>=λ tc=>match tc with
 | true=>(c 632 [aB,x8])
 | false=>((cmpA .Eq x8 (.str [97,112,112]))>>=λ tc=>match tc with
 | true=>((seqA [(pure aB),(pure (.int 3)),(seqA [(attrA tb0 aB (nm "items"))]>>=λ vs9=>(callB tb0 .len vs9))]>>=λ vs10=>(c 625 vs10))>>=λ zz=>(seqA [(c 594 [aB,(.int 1)]),(c 599 [aB,(.int 2)])]>>=λ vs11=>(c 141 vs11)))
 | false=>((cmpA .Eq x8 (.str [108,97,109]))>>=λ tc=>match tc with
 | true=>(c 646 [aB])
 | false=>((boolT .Or [(cmpA .Eq x8 (.str [108,101,116])),(cmpA .Eq x8 (.str [108,101,116,114,101,99]))])>>=λ tc=>match tc with
 | true=>(seqA [(pure aB),((cmpA .Eq x8 (.str [108,101,116,114,101,99]))>>=λ b=>pure (.bool b))]>>=λ vs12=>(c 639 vs12))
 | false=>((cmpA .Eq x8 (.str [99,97,115,101]))>>=λ tc=>match tc with
 | true=>(c 658 [aB])
 | false=>((boolT .Or [(cmpA .Eq x8 (.str [111,102])),(cmpA .Eq x8 (.str [105,115]))])>>=λ tc=>match tc with
 | true=>(c 653 [aB,x8])
 | false=>((cmpA .Eq x8 (.str [101,108,115,101]))>>=λ tc=>match tc with
 | true=>((c 625 [aB,(.int 2),(.int 2)])>>=λ zz=>(seqA [(c 594 [aB,(.int 1)])]>>=λ vs13=>(c 480 vs13)))
 | false=>((cmpA .Eq x8 (.str [99,111,110]))>>=λ tc=>match tc with
 | true=>(seqA [(c 587 [aB,(.int 1)]),(c 599 [aB,(.int 2)])]>>=λ vs14=>(c 322 vs14))
 | false=>((cmpA .Eq x8 (.str [112,114,105,109]))>>=λ tc=>match tc with
 | true=>(seqA [(c 587 [aB,(.int 1)]),(c 599 [aB,(.int 2)])]>>=λ vs15=>(c 362 vs15))
 | false=>(c 665 [aB]))))))))))
noncomputable def K672_f1 (aB:AV) (c:CC) (fuel:Nat):PM AV:=
 (((((((attrA tb0 aB (nm "items")))>>=λ v6=>(subA v6 (.int 0))))>>=λ v7=>(attrA tb0 v7 (nm "value"))))>>=λ x8=>K672 c fuel aB x8)
noncomputable def D672 (c:CC) (fuel:Nat) (aB:AV):PM AV:=
 ((boolT .Or [(((attrA tb0 aB (nm "items")))>>=λ v1=>(((newL []))>>=λ v2=>(cmpA .Eq v1 v2))),((((seqA [(((attrA tb0 aB (nm "items")))>>=λ v3=>(subA v3 (.int 0))),(pure (.str [107,101,121]))]>>=λ vs4=>(c 580 vs4)))>>=λ v5=>(truthA v5))>>=λ b=>pure !b)])>>=λ tc=>match tc with
 | true=>(pure aB)
 | false=>(K672_f1 aB c fuel))
theorem den_672 (d fuel:Nat) (aB:AV):callF tb0 fuel (d + 1) 672 [aB]=D672 (callF tb0 fuel d) fuel aB:=(callF_step ..).trans (by kernel_rfl)
noncomputable def K679_t1 (lc6:Lc) (c:CC) (fuel:Nat) (kk7:Lc→PM AV):PM AV:=
 (((lk lc6 (nm "waiting"))>>=λ v12=>(methA tb0 v12 (nm "append")>>=λ m13=>(seqA [(seqA [((lk lc6 (nm "word"))>>=λ v14=>(attrA tb0 v14 (nm "place")))]>>=λ vs15=>(c 438 vs15))]>>=λ vs16=>callM ⟨tb0,c,fuel⟩ m13 v12 vs16)))>>=λ zz=>((((lk lc6 (nm "scanner"))>>=λ v17=>(methA tb0 v17 (nm "word")>>=λ m18=>callM ⟨tb0,c,fuel⟩ m18 v17 [])))>>=λ x19=>(kk7 (kvSet lc6 (nm "word") x19))))
noncomputable def K679_t2 (lc6:Lc):PM AV:=
 (seqA [(pure (.str [97,32,98,114,97,99,107,101,116,32,99,108,111,115,101,115,32,110,111,116,104,105,110,103])),((lk lc6 (nm "word"))>>=λ v24=>(attrA tb0 v24 (nm "place")))]>>=λ vs25=>(raiseA tb0 (.val 397) vs25))
noncomputable def K679_29 (lc6:Lc) (x29:AV) (c:CC) (fuel:Nat) (kk7:Lc→PM AV):PM AV:=
 (((((((lk (kvSet lc6 (nm "ended") x29) (nm "waiting"))>>=λ v30=>(subA v30 (.int (-1)))))>>=λ v31=>(attrA tb0 v31 (nm "items"))))>>=λ v32=>(methA tb0 v32 (nm "append")>>=λ m33=>(seqA [lk (kvSet lc6 (nm "ended") x29) (nm "ended")]>>=λ vs34=>callM ⟨tb0,c,fuel⟩ m33 v32 vs34)))>>=λ zz=>((((lk (kvSet lc6 (nm "ended") x29) (nm "scanner"))>>=λ v35=>(methA tb0 v35 (nm "word")>>=λ m36=>callM ⟨tb0,c,fuel⟩ m36 v35 [])))>>=λ x37=>(kk7 (kvSet (kvSet lc6 (nm "ended") x29) (nm "word") x37))))
noncomputable def K679_f4 (lc6:Lc) (c:CC) (fuel:Nat) (kk7:Lc→PM AV):PM AV:=
 (((seqA [((lk lc6 (nm "waiting"))>>=λ v26=>(methA tb0 v26 (nm "pop")>>=λ m27=>callM ⟨tb0,c,fuel⟩ m27 v26 []))]>>=λ vs28=>(c 672 vs28)))>>=λ x29=>(K679_29 lc6 x29 c fuel kk7))
noncomputable def K679_t5 (lc6:Lc) (c:CC) (fuel:Nat) (kk7:Lc→PM AV):PM AV:=
 ((((seqA [lk lc6 (nm "waiting")]>>=λ vs22=>(callB tb0 .len vs22)))>>=λ v23=>(cmpA .Eq v23 (.int 1)))>>=λ tc=>match tc with
 | true=>(K679_t2 lc6)
 | false=>(K679_f4 lc6 c fuel kk7))
noncomputable def K679_f6 (lc6:Lc) (c:CC) (fuel:Nat) (kk7:Lc→PM AV):PM AV:=
 (((((((lk lc6 (nm "waiting"))>>=λ v38=>(subA v38 (.int (-1)))))>>=λ v39=>(attrA tb0 v39 (nm "items"))))>>=λ v40=>(methA tb0 v40 (nm "append")>>=λ m41=>(seqA [lk lc6 (nm "word")]>>=λ vs42=>callM ⟨tb0,c,fuel⟩ m41 v40 vs42)))>>=λ zz=>((((lk lc6 (nm "scanner"))>>=λ v43=>(methA tb0 v43 (nm "word")>>=λ m44=>callM ⟨tb0,c,fuel⟩ m44 v43 [])))>>=λ x45=>(kk7 (kvSet lc6 (nm "word") x45))))
noncomputable def K679_f7 (lc6:Lc) (c:CC) (fuel:Nat) (kk7:Lc→PM AV):PM AV:=
 (((((lk lc6 (nm "word"))>>=λ v20=>(attrA tb0 v20 (nm "kind"))))>>=λ v21=>(cmpA .Eq v21 (.str [41])))>>=λ tc=>match tc with
 | true=>(K679_t5 lc6 c fuel kk7)
 | false=>(K679_f6 lc6 c fuel kk7))
noncomputable def K679_t8 (lc6:Lc):PM AV:=
 (seqA [(pure (.str [97,32,98,114,97,99,107,101,116,32,105,115,32,110,111,116,32,99,108,111,115,101,100])),((((lk lc6 (nm "waiting"))>>=λ v48=>(subA v48 (.int (-1)))))>>=λ v49=>(attrA tb0 v49 (nm "place")))]>>=λ vs50=>(raiseA tb0 (.val 397) vs50))
noncomputable def K679_5 (c:CC) (fuel:Nat) (aJ:AV) (x1:AV) (x2:AV) (x3:AV) (x5:AV):PM AV:=
 (loopN (λ lc6=>((((lk lc6 (nm "word"))>>=λ v8=>(attrA tb0 v8 (nm "kind"))))>>=λ v9=>(cmpA .NotEq v9 (.str [101,110,100]))))
 (λ lc6 kk7=>(((((lk lc6 (nm "word"))>>=λ v10=>(attrA tb0 v10 (nm "kind"))))>>=λ v11=>(cmpA .Eq v11 (.str [40])))>>=λ tc=>match tc with
 | true=>(K679_t1 lc6 c fuel kk7)
 | false=>(K679_f7 lc6 c fuel kk7)))
 (λ lc6=>((((seqA [lk lc6 (nm "waiting")]>>=λ vs46=>(callB tb0 .len vs46)))>>=λ v47=>(cmpA .Gt v47 (.int 1)))>>=λ tc=>match tc with
 | true=>(K679_t8 lc6)
 | false=>((seqA [lk lc6 (nm "outer"),(pure (.int 1)),(pure (.int 1))]>>=λ vs51=>(c 625 vs51))>>=λ zz=>lk lc6 (nm "outer")))) fuel [(nm "text",aJ),(nm "scanner",x1),(nm "outer",x2),(nm "waiting",x3),(nm "word",x5)])
noncomputable def K679_2 (x2:AV) (x1:AV) (c:CC) (fuel:Nat) (aJ:AV):PM AV:=
 (((newL [x2]))>>=λ x3=>(((methA tb0 x1 (nm "word")>>=λ m4=>callM ⟨tb0,c,fuel⟩ m4 x1 []))>>=λ x5=>(K679_5 c fuel aJ x1 x2 x3 x5)))
noncomputable def D679 (c:CC) (fuel:Nat) (aJ:AV):PM AV:=
 (((c 562 [aJ]))>>=λ x1=>(((c 438 [(.tup [(.int 1),(.int 1)])]))>>=λ x2=>(K679_2 x2 x1 c fuel aJ)))
theorem den_679 (d fuel:Nat) (aJ:AV):callF tb0 fuel (d + 1) 679 [aJ]=D679 (callF tb0 fuel d) fuel aJ:=(callF_step ..).trans (by kernel_rfl)
noncomputable def D686 (c:CC) (fuel:Nat) (aJ:AV):PM AV:=
 (seqA [(c 679 [aJ]),(pure (.int 0))]>>=λ vs1=>(c 594 vs1))
theorem den_686 (d fuel:Nat) (aJ:AV):callF tb0 fuel (d + 1) 686 [aJ]=D686 (callF tb0 fuel d) fuel aJ:=(callF_step ..).trans (by kernel_rfl)
noncomputable def D693 (c:CC) (fuel:Nat) (aT:AV) (aI:AV):PM AV:=
 ((((callB tb0 .len [aT]))>>=λ v1=>(cmpA .Lt aI v1))>>=λ tc=>match tc with
 | true=>(((subA aT aI))>>=λ x2=>(((seqA [(callB tb0 .int [x2]),(seqA [(binA .Sub (.int (-1)) x2)]>>=λ vs3=>(callB tb0 .int vs3))]>>=λ vs4=>(callB tb0 .max vs4)))>>=λ x5=>(((((seqA [(((((((((((callB tb0 .int [x5]))>>=λ v6=>(binA .Mod v6 (.int 2147483629))))>>=λ v7=>(((((binA .Mult (.int 7919) aI))>>=λ v8=>(binA .Mult v8 aI)))>>=λ v9=>(binA .Add v7 v9))))>>=λ v10=>(((binA .Mult (.int 31) aI))>>=λ v11=>(binA .Add v10 v11))))>>=λ v12=>(binA .Add v12 (.int 17))))>>=λ v13=>(binA .Mult v13 (.int 48271)))]>>=λ vs14=>(callB tb0 .int vs14)))>>=λ v15=>(binA .Mod v15 (.int 2147483647))))>>=λ x16=>(seqA [(((seqA [((((binA .Pow (.int 10) (.int 18)))>>=λ v17=>(cmpA .GtE x5 v17))>>=λ b=>pure (.bool b))]>>=λ vs18=>(callB tb0 .int vs18)))>>=λ v19=>(binA .Mult x5 v19)),(pure x16)]>>=λ vs20=>(newL vs20)))))
 | false=>(((seqA [(callB tb0 .int [(.int 0)]),(seqA [(binA .Sub (.int (-1)) (.int 0))]>>=λ vs21=>(callB tb0 .int vs21))]>>=λ vs22=>(callB tb0 .max vs22)))>>=λ x23=>(((((seqA [(((((((((((callB tb0 .int [x23]))>>=λ v24=>(binA .Mod v24 (.int 2147483629))))>>=λ v25=>(((((binA .Mult (.int 7919) aI))>>=λ v26=>(binA .Mult v26 aI)))>>=λ v27=>(binA .Add v25 v27))))>>=λ v28=>(((binA .Mult (.int 31) aI))>>=λ v29=>(binA .Add v28 v29))))>>=λ v30=>(binA .Add v30 (.int 17))))>>=λ v31=>(binA .Mult v31 (.int 48271)))]>>=λ vs32=>(callB tb0 .int vs32)))>>=λ v33=>(binA .Mod v33 (.int 2147483647))))>>=λ x34=>(seqA [(((seqA [((((binA .Pow (.int 10) (.int 18)))>>=λ v35=>(cmpA .GtE x23 v35))>>=λ b=>pure (.bool b))]>>=λ vs36=>(callB tb0 .int vs36)))>>=λ v37=>(binA .Mult x23 v37)),(pure x34)]>>=λ vs38=>(newL vs38)))))
theorem den_693 (d fuel:Nat) (aT:AV) (aI:AV):callF tb0 fuel (d + 1) 693 [aT,aI]=D693 (callF tb0 fuel d) fuel aT aI:=(callF_step ..).trans (by kernel_rfl)
noncomputable def D700 (c:CC) (fuel:Nat) (aD:AV) (aW:AV):PM AV:=
 ((((subA aD (.int 0)))>>=λ v1=>(cmpA .Gt v1 (.int 0)))>>=λ tc=>match tc with
 | true=>(((((seqA [(subA aD (.int 0))]>>=λ vs2=>(callB tb0 .int vs2)))>>=λ v3=>(binA .Mod v3 aW)))>>=λ x4=>(((((subA aD (.int 0)))>>=λ v5=>(binA .FloorDiv v5 aW)))>>=λ x6=>(setItemA aD (.int 0) x6>>=λ zz=>(pure x4))))
 | false=>(((((seqA [(((((subA aD (.int 1)))>>=λ v7=>(binA .Mult v7 (.int 39373))))>>=λ v8=>(binA .Add v8 (.int 7)))]>>=λ vs9=>(callB tb0 .int vs9)))>>=λ v10=>(binA .Mod v10 (.int 2147483647))))>>=λ x11=>(setItemA aD (.int 1) x11>>=λ zz=>(((seqA [(((((seqA [(((subA aD (.int 1)))>>=λ v12=>(((subA aD (.int 1)))>>=λ v13=>(binA .Mult v12 v13)))]>>=λ vs14=>(callB tb0 .int vs14)))>>=λ v15=>(binA .Mod v15 (.int 2147483629))))>>=λ v16=>(binA .FloorDiv v16 (.int 32)))]>>=λ vs17=>(callB tb0 .int vs17)))>>=λ v18=>(binA .Mod v18 aW)))))
theorem den_700 (d fuel:Nat) (aD:AV) (aW:AV):callF tb0 fuel (d + 1) 700 [aD,aW]=D700 (callF tb0 fuel d) fuel aD aW:=(callF_step ..).trans (by kernel_rfl)
noncomputable def D707 (c:CC) (fuel:Nat) (aD:AV) (aX:AV):PM AV:=
 (((seqA [(pure aD),(callB tb0 .len [aX])]>>=λ vs1=>(c 700 vs1)))>>=λ v2=>(subA aX v2))
theorem den_707 (d fuel:Nat) (aD:AV) (aX:AV):callF tb0 fuel (d + 1) 707 [aD,aX]=D707 (callF tb0 fuel d) fuel aD aX:=(callF_step ..).trans (by kernel_rfl)
noncomputable def D714 (c:CC) (fuel:Nat) :PM AV:=
 (newL [(.str [105,110,116]),(.str [99,104,97,114]),(.str [97,112,112]),(.str [108,97,109]),(.str [108,101,116]),(.str [108,101,116,114,101,99]),(.str [99,97,115,101]),(.str [111,102]),(.str [105,115]),(.str [101,108,115,101]),(.str [99,111,110]),(.str [112,114,105,109]),(.str [112,114,111,103,114,97,109])])
theorem den_714 (d fuel:Nat) :callF tb0 fuel (d + 1) 714 []=D714 (callF tb0 fuel d) fuel :=(callF_step ..).trans (by kernel_rfl)
noncomputable def D721 (c:CC) (fuel:Nat) (aD:AV):PM AV:=
 (seqA [(pure aD),(((newL [(.str [120]),(.str [102]),(.str [121,46,50]),(.str [124,97,32,98,124]),(.str [120]),(.str [102])]))>>=λ v1=>(((seqA [(pure aD),(seqA [(newL []),(newL []),(newL []),(newL [(.str [53]),(.str [108,101,116]),(.str [45,55,48])])]>>=λ vs2=>(newL vs2))]>>=λ vs3=>(c 707 vs3)))>>=λ v4=>(binA .Add v1 v4)))]>>=λ vs5=>(c 707 vs5))
theorem den_721 (d fuel:Nat) (aD:AV):callF tb0 fuel (d + 1) 721 [aD]=D721 (callF tb0 fuel d) fuel aD:=(callF_step ..).trans (by kernel_rfl)
noncomputable def D728 (c:CC) (fuel:Nat) (aM:AV):PM AV:=
 (newL [aM,.none,.none])
theorem den_728 (d fuel:Nat) (aM:AV):callF tb0 fuel (d + 1) 728 [aM]=D728 (callF tb0 fuel d) fuel aM:=(callF_step ..).trans (by kernel_rfl)
noncomputable def D733 (c:CC) (fuel:Nat) (aD:AV):PM AV:=
 (seqA [(((seqA [(seqA [(pure aD),(newL [(.int 1),(.int 1),(.int 2),(.int 0)])]>>=λ vs2=>(c 707 vs2))]>>=λ vs3=>(callB tb0 .range vs3)))>>=λ v4=>(srcOf v4>>=λ src=>goN (λ x1=>((c 721 [aD])>>=λ y=>pure [y])) src fuel 0>>=λ vs=>newL vs))]>>=λ vs5=>(c 728 vs5))
theorem den_733 (d fuel:Nat) (aD:AV):callF tb0 fuel (d + 1) 733 [aD]=D733 (callF tb0 fuel d) fuel aD:=(callF_step ..).trans (by kernel_rfl)
noncomputable def D738 (c:CC) (fuel:Nat) (aD:AV) (aH:AV):PM AV:=
 (seqA [(((seqA [(c 721 [aD])]>>=λ vs1=>(newL vs1)))>>=λ v2=>(((((seqA [(seqA [(pure aD),(newL [(.int 1),(.int 1),(.int 1),(.int 1),(.int 0),(.int 2)])]>>=λ vs4=>(c 707 vs4))]>>=λ vs5=>(callB tb0 .range vs5)))>>=λ v6=>(srcOf v6>>=λ src=>goN (λ x3=>((seqA [(pure aD),(binA .Sub aH (.int 1))]>>=λ vs7=>(c 762 vs7))>>=λ y=>pure [y])) src fuel 0>>=λ vs=>newL vs)))>>=λ v8=>(binA .Add v2 v8)))]>>=λ vs9=>(c 728 vs9))
theorem den_738 (d fuel:Nat) (aD:AV) (aH:AV):callF tb0 fuel (d + 1) 738 [aD,aH]=D738 (callF tb0 fuel d) fuel aD aH:=(callF_step ..).trans (by kernel_rfl)
noncomputable def D745 (c:CC) (fuel:Nat) (aD:AV) (aH:AV):PM AV:=
 ((((c 700 [aD,(.int 2)]))>>=λ v1=>(cmpA .Eq v1 (.int 0)))>>=λ tc=>match tc with
 | true=>(seqA [(seqA [(pure (.str [111,102])),(c 721 [aD]),(c 733 [aD]),(seqA [(pure aD),(binA .Sub aH (.int 1))]>>=λ vs2=>(c 762 vs2))]>>=λ vs3=>(newL vs3))]>>=λ vs4=>(c 728 vs4))
 | false=>(((seqA [(seqA [(seqA [(pure aD),(newL [(.str [105,110,116]),(.str [99,104,97,114])])]>>=λ vs5=>(c 707 vs5)),(seqA [(pure aD),(newL [(.str [53]),(.str [57,55]),(.str [57,55]),(.str [45,49]),(.str [49,49,49,52,49,49,50])])]>>=λ vs6=>(c 707 vs6))]>>=λ vs7=>(newL vs7))]>>=λ vs8=>(c 728 vs8)))>>=λ x9=>(seqA [(seqA [(pure (.str [105,115])),(seqA [(pure aD),(newL [x9,x9,(.str [120])])]>>=λ vs10=>(c 707 vs10)),(seqA [(pure aD),(binA .Sub aH (.int 1))]>>=λ vs11=>(c 762 vs11))]>>=λ vs12=>(newL vs12))]>>=λ vs13=>(c 728 vs13))))
theorem den_745 (d fuel:Nat) (aD:AV) (aH:AV):callF tb0 fuel (d + 1) 745 [aD,aH]=D745 (callF tb0 fuel d) fuel aD aH:=(callF_step ..).trans (by kernel_rfl)
noncomputable def K750_t1 (x7:AV) (aD:AV) (aH:AV) (c:CC) (fuel:Nat):PM AV:=
 ((methA tb0 x7 (nm "append")>>=λ m9=>(seqA [(seqA [(seqA [(pure (.str [101,108,115,101])),(seqA [(pure aD),(binA .Sub aH (.int 1))]>>=λ vs10=>(c 762 vs10))]>>=λ vs11=>(newL vs11))]>>=λ vs12=>(c 728 vs12))]>>=λ vs13=>callM ⟨tb0,c,fuel⟩ m9 x7 vs13))>>=λ zz=>(pure x7))
noncomputable def K750_7 (c:CC) (aD:AV) (x7:AV) (aH:AV) (fuel:Nat):PM AV:=
 ((((c 700 [aD,(.int 2)]))>>=λ v8=>(cmpA .Eq v8 (.int 0)))>>=λ tc=>match tc with
 | true=>(K750_t1 x7 aD aH c fuel)
 | false=>(pure x7))
noncomputable def K750_4 (aD:AV) (aH:AV) (c:CC) (x4:AV) (fuel:Nat):PM AV:=
 (((seqA [(pure (.str [99,97,115,101])),(seqA [(pure aD),(binA .Sub aH (.int 1))]>>=λ vs5=>(c 762 vs5)),(c 721 [aD]),(c 728 [x4])]>>=λ vs6=>(newL vs6)))>>=λ x7=>(K750_7 c aD x7 aH fuel))
noncomputable def D750 (c:CC) (fuel:Nat) (aD:AV) (aH:AV):PM AV:=
 (((((seqA [(c 700 [aD,(.int 3)])]>>=λ vs2=>(callB tb0 .range vs2)))>>=λ v3=>(srcOf v3>>=λ src=>goN (λ x1=>((c 745 [aD,aH])>>=λ y=>pure [y])) src fuel 0>>=λ vs=>newL vs)))>>=λ x4=>(K750_4 aD aH c x4 fuel))
theorem den_750 (d fuel:Nat) (aD:AV) (aH:AV):callF tb0 fuel (d + 1) 750 [aD,aH]=D750 (callF tb0 fuel d) fuel aD aH:=(callF_step ..).trans (by kernel_rfl)
noncomputable def D755 (c:CC) (fuel:Nat) (aD:AV) (aH:AV):PM AV:=
 (((c 700 [aD,(.int 9)]))>>=λ x1=>((cmpA .Eq x1 (.int 0))>>=λ tc=>match tc with
 | true=>(seqA [(seqA [(pure aD),(newL [(.str [105,110,116]),(.str [99,104,97,114])])]>>=λ vs2=>(c 707 vs2)),(seqA [(pure aD),(newL [(.str [53]),(.str [57,55]),(.str [45,49]),(.str [120])])]>>=λ vs3=>(c 707 vs3))]>>=λ vs4=>(newL vs4))
 | false=>((cmpA .Eq x1 (.int 1))>>=λ tc=>match tc with
 | true=>(((newL [(.str [97,112,112])]))>>=λ v5=>(((((callB tb0 .range [(.int 2)]))>>=λ v7=>(srcOf v7>>=λ src=>goN (λ x6=>((seqA [(pure aD),(binA .Sub aH (.int 1))]>>=λ vs8=>(c 762 vs8))>>=λ y=>pure [y])) src fuel 0>>=λ vs=>newL vs)))>>=λ v9=>(binA .Add v5 v9)))
 | false=>((cmpA .Eq x1 (.int 2))>>=λ tc=>match tc with
 | true=>(seqA [(pure (.str [108,97,109])),(c 733 [aD]),(seqA [(pure aD),(binA .Sub aH (.int 1))]>>=λ vs10=>(c 762 vs10))]>>=λ vs11=>(newL vs11))
 | false=>((cmpA .Lt x1 (.int 5))>>=λ tc=>match tc with
 | true=>(((((seqA [(seqA [(pure aD),(newL [(.int 1),(.int 1),(.int 2),(.int 0)])]>>=λ vs13=>(c 707 vs13))]>>=λ vs14=>(callB tb0 .range vs14)))>>=λ v15=>(srcOf v15>>=λ src=>goN (λ x12=>((c 738 [aD,aH])>>=λ y=>pure [y])) src fuel 0>>=λ vs=>newL vs)))>>=λ x16=>(seqA [(seqA [(pure aD),(newL [(.str [108,101,116]),(.str [108,101,116,114,101,99])])]>>=λ vs17=>(c 707 vs17)),(c 728 [x16]),(seqA [(pure aD),(binA .Sub aH (.int 1))]>>=λ vs18=>(c 762 vs18))]>>=λ vs19=>(newL vs19)))
 | false=>((cmpA .Lt x1 (.int 7))>>=λ tc=>match tc with
 | true=>(c 750 [aD,aH])
 | false=>((cmpA .Eq x1 (.int 7))>>=λ tc=>match tc with
 | true=>(((seqA [(seqA [(pure aD),(newL [(.str [99,111,110]),(.str [112,114,105,109])])]>>=λ vs20=>(c 707 vs20)),(c 721 [aD])]>>=λ vs21=>(newL vs21)))>>=λ v22=>(((((seqA [(c 700 [aD,(.int 2)])]>>=λ vs24=>(callB tb0 .range vs24)))>>=λ v25=>(srcOf v25>>=λ src=>goN (λ x23=>((seqA [(pure aD),(binA .Sub aH (.int 1))]>>=λ vs26=>(c 762 vs26))>>=λ y=>pure [y])) src fuel 0>>=λ vs=>newL vs)))>>=λ v27=>(binA .Add v22 v27)))
 | false=>(seqA [(pure aD),(seqA [(newL [(.str [112,114,111,103,114,97,109]),(.str [120])]),(newL [(.str [120])]),(newL []),(newL [(.str [101,108,115,101]),(.str [120])])]>>=λ vs28=>(newL vs28))]>>=λ vs29=>(c 707 vs29)))))))))
theorem den_755 (d fuel:Nat) (aD:AV) (aH:AV):callF tb0 fuel (d + 1) 755 [aD,aH]=D755 (callF tb0 fuel d) fuel aD aH:=(callF_step ..).trans (by kernel_rfl)
noncomputable def D762 (c:CC) (fuel:Nat) (aD:AV) (aH:AV):PM AV:=
 ((boolT .Or [(cmpA .LtE aH (.int 0)),(((c 700 [aD,(.int 3)]))>>=λ v1=>(cmpA .Eq v1 (.int 0)))])>>=λ tc=>match tc with
 | true=>(c 721 [aD])
 | false=>(((c 755 [aD,aH]))>>=λ x2=>(((c 700 [aD,(.int 12)]))>>=λ x3=>((cmpA .Eq x3 (.int 0))>>=λ tc=>match tc with
 | true=>(((sliceA x2 .none (.int (-1))))>>=λ x4=>((cmpA .Eq x3 (.int 1))>>=λ tc=>match tc with
 | true=>(((((seqA [(c 721 [aD])]>>=λ vs5=>(newL vs5)))>>=λ v6=>(binA .Add x4 v6)))>>=λ x7=>(c 728 [x7]))
 | false=>(c 728 [x4])))
 | false=>((cmpA .Eq x3 (.int 1))>>=λ tc=>match tc with
 | true=>(((((seqA [(c 721 [aD])]>>=λ vs8=>(newL vs8)))>>=λ v9=>(binA .Add x2 v9)))>>=λ x10=>(c 728 [x10]))
 | false=>(c 728 [x2]))))))
theorem den_762 (d fuel:Nat) (aD:AV) (aH:AV):callF tb0 fuel (d + 1) 762 [aD,aH]=D762 (callF tb0 fuel d) fuel aD aH:=(callF_step ..).trans (by kernel_rfl)
noncomputable def D769 (c:CC) (fuel:Nat) (aD:AV) (aK:AV):PM AV:=
 (((seqA [(pure aD),(newL [(.str [32]),(.str [32]),(.str [9,32]),(.str [10]),(.str [32,13,10,32])])]>>=λ vs1=>(c 707 vs1)))>>=λ x2=>(((((subA aK (.str [116,101,120,116])))>>=λ v3=>(binA .Add v3 x2)))>>=λ x4=>(setItemA aK (.str [116,101,120,116]) x4>>=λ zz=>((cmpA .In (.str [10]) x2)>>=λ tc=>match tc with
 | true=>(((seqA [(((subA aK (.str [114,111,119])))>>=λ v9=>(binA .Add v9 (.int 1))),(((callB tb0 .len [x2]))>>=λ v10=>(((methA tb0 x2 (nm "find")>>=λ m11=>callM ⟨tb0,c,fuel⟩ m11 x2 [(.str [10])]))>>=λ v12=>(binA .Sub v10 v12)))]>>=λ vs13=>(if vs13.length≤maxLen then pure (.tup vs13) else PM.fail)))>>=λ v14=>(onPair v14 λ p15 p16=>(setItemA aK (.str [114,111,119]) p15>>=λ zz=>(setItemA aK (.str [99,111,108,117,109,110]) p16>>=λ zz=>(pure .none)))))
 | false=>(((((subA aK (.str [99,111,108,117,109,110])))>>=λ v17=>(((callB tb0 .len [x2]))>>=λ v18=>(binA .Add v17 v18))))>>=λ x19=>(setItemA aK (.str [99,111,108,117,109,110]) x19>>=λ zz=>(pure .none)))))))
theorem den_769 (d fuel:Nat) (aD:AV) (aK:AV):callF tb0 fuel (d + 1) 769 [aD,aK]=D769 (callF tb0 fuel d) fuel aD aK:=(callF_step ..).trans (by kernel_rfl)
noncomputable def D776 (c:CC) (fuel:Nat) (aK:AV) (aG:AV):PM AV:=
 (((seqA [(subA aK (.str [114,111,119])),(subA aK (.str [99,111,108,117,109,110]))]>>=λ vs1=>(if vs1.length≤maxLen then pure (.tup vs1) else PM.fail)))>>=λ x2=>(((seqA [(((subA aK (.str [116,101,120,116])))>>=λ v6=>(binA .Add v6 aG)),(((subA aK (.str [99,111,108,117,109,110])))>>=λ v7=>(((callB tb0 .len [aG]))>>=λ v8=>(binA .Add v7 v8)))]>>=λ vs9=>(if vs9.length≤maxLen then pure (.tup vs9) else PM.fail)))>>=λ v10=>(onPair v10 λ p11 p12=>(setItemA aK (.str [116,101,120,116]) p11>>=λ zz=>(setItemA aK (.str [99,111,108,117,109,110]) p12>>=λ zz=>(pure x2))))))
theorem den_776 (d fuel:Nat) (aK:AV) (aG:AV):callF tb0 fuel (d + 1) 776 [aK,aG]=D776 (callF tb0 fuel d) fuel aK aG:=(callF_step ..).trans (by kernel_rfl)
noncomputable def K783_t1 (lc3:Lc) (v5:AV) (c:CC) (kk4:Lc→PM AV):PM AV:=
 ((seqA [lk (kvSet lc3 (nm "at") v5) (nm "source"),lk (kvSet lc3 (nm "at") v5) (nm "state")]>>=λ vs10=>(c 769 vs10))>>=λ zz=>((seqA [lk (kvSet lc3 (nm "at") v5) (nm "source"),((((lk (kvSet lc3 (nm "at") v5) (nm "thing"))>>=λ v11=>(subA v11 (.int 0))))>>=λ v12=>((lk (kvSet lc3 (nm "at") v5) (nm "at"))>>=λ v13=>(subA v12 v13))),lk (kvSet lc3 (nm "at") v5) (nm "state")]>>=λ vs14=>(c 783 vs14))>>=λ zz=>(kk4 (kvSet lc3 (nm "at") v5))))
noncomputable def K783_f2 (lc3:Lc) (v5:AV) (c:CC) (kk4:Lc→PM AV):PM AV:=
 ((seqA [lk (kvSet lc3 (nm "at") v5) (nm "source"),((((lk (kvSet lc3 (nm "at") v5) (nm "thing"))>>=λ v15=>(subA v15 (.int 0))))>>=λ v16=>((lk (kvSet lc3 (nm "at") v5) (nm "at"))>>=λ v17=>(subA v16 v17))),lk (kvSet lc3 (nm "at") v5) (nm "state")]>>=λ vs18=>(c 783 vs18))>>=λ zz=>(kk4 (kvSet lc3 (nm "at") v5)))
noncomputable def K783_2 (aL:AV) (x2:AV) (c:CC) (fuel:Nat) (aD:AV) (aK:AV):PM AV:=
 (setItemA aL (.int 1) x2>>=λ zz=>(((seqA [(seqA [(subA aL (.int 0))]>>=λ vs6=>(callB tb0 .len vs6))]>>=λ vs7=>(callB tb0 .range vs7)))>>=λ v8=>(srcOf v8>>=λ src=>forN (λ v5 lc3 kk4=>(((lk (kvSet lc3 (nm "at") v5) (nm "at"))>>=λ v9=>(cmpA .Gt v9 (.int 0)))>>=λ tc=>match tc with
 | true=>(K783_t1 lc3 v5 c kk4)
 | false=>(K783_f2 lc3 v5 c kk4)))
 (λ lc3=>(((seqA [lk lc3 (nm "state"),(pure (.str [41]))]>>=λ vs19=>(c 776 vs19)))>>=λ x20=>((lk lc3 (nm "thing"))>>=λ v21=>(setItemA v21 (.int 2) x20>>=λ zz=>(pure .none))))) src fuel 0 [(nm "source",aD),(nm "thing",aL),(nm "state",aK)])))
noncomputable def D783 (c:CC) (fuel:Nat) (aD:AV) (aL:AV) (aK:AV):PM AV:=
 ((((callB tb0 .isinstance [aL,(.bi .str)]))>>=λ v1=>(truthA v1))>>=λ tc=>match tc with
 | true=>((c 776 [aK,aL])>>=λ zz=>(pure .none))
 | false=>(((c 776 [aK,(.str [40])]))>>=λ x2=>(K783_2 aL x2 c fuel aD aK)))
theorem den_783 (d fuel:Nat) (aD:AV) (aL:AV) (aK:AV):callF tb0 fuel (d + 1) 783 [aD,aL,aK]=D783 (callF tb0 fuel d) fuel aD aL aK:=(callF_step ..).trans (by kernel_rfl)
noncomputable def D790 (c:CC) (fuel:Nat) (aP:AV):PM AV:=
 ((((newL [(.str [110,97,109,101]),(.str [99,111,114,101]),(.str [108,105,116,101,114,97,108])]))>>=λ v1=>(cmpA .In aP v1))>>=λ b=>pure (.bool b))
theorem den_790 (d fuel:Nat) (aP:AV):callF tb0 fuel (d + 1) 790 [aP]=D790 (callF tb0 fuel d) fuel aP:=(callF_step ..).trans (by kernel_rfl)
noncomputable def D797 (c:CC) (fuel:Nat) (aE:AV):PM AV:=
 boolA .And [(callB tb0 .isinstance [aE,(.bi .list)]),(((subA aE (.int 3)))>>=λ v1=>((cmpA .Eq v1 (.str [108,105,115,116]))>>=λ b=>pure (.bool b))),(((seqA [(subA aE (.int 0))]>>=λ vs2=>(callB tb0 .len vs2)))>>=λ v3=>((cmpA .Eq v3 (.int 2))>>=λ b=>pure (.bool b))),boolA .And [(((seqA [(((subA aE (.int 0)))>>=λ v4=>(subA v4 (.int 0)))]>>=λ vs5=>(c 804 vs5)))>>=λ v6=>((cmpA .Eq v6 (.str [110,97,109,101]))>>=λ b=>pure (.bool b))),(seqA [(seqA [(((subA aE (.int 0)))>>=λ v7=>(subA v7 (.int 1)))]>>=λ vs8=>(c 804 vs8))]>>=λ vs9=>(c 790 vs9))]]
theorem den_797 (d fuel:Nat) (aE:AV):callF tb0 fuel (d + 1) 797 [aE]=D797 (callF tb0 fuel d) fuel aE:=(callF_step ..).trans (by kernel_rfl)
noncomputable def K804_f1 (aE:AV) (c:CC) (fuel:Nat):PM AV:=
 ((((((onBare aE))>>=λ v3=>(methA tb0 v3 (nm "isdigit")>>=λ m4=>callM ⟨tb0,c,fuel⟩ m4 v3 [])))>>=λ v5=>(truthA v5))>>=λ tc=>match tc with | true=>(pure (.str [110,117,109,98,101,114])) | false=>(pure (.str [110,97,109,101])))
noncomputable def K804_f2 (c:CC) (aE:AV) (fuel:Nat):PM AV:=
 ((((c 714 []))>>=λ v2=>(cmpA .In aE v2))>>=λ tc=>match tc with
 | true=>(pure (.str [107,101,121]))
 | false=>(K804_f1 aE c fuel))
noncomputable def D804 (c:CC) (fuel:Nat) (aE:AV):PM AV:=
 ((((callB tb0 .isinstance [aE,(.bi .list)]))>>=λ v1=>(truthA v1))>>=λ tc=>match tc with
 | true=>(subA aE (.int 3))
 | false=>(K804_f2 c aE fuel))
theorem den_804 (d fuel:Nat) (aE:AV):callF tb0 fuel (d + 1) 804 [aE]=D804 (callF tb0 fuel d) fuel aE:=(callF_step ..).trans (by kernel_rfl)
noncomputable def D809 (c:CC) (fuel:Nat) (aE:AV):PM AV:=
 boolA .And [(callB tb0 .isinstance [aE,(.bi .list)]),(((subA aE (.int 3)))>>=λ v1=>((cmpA .Eq v1 (.str [108,105,115,116]))>>=λ b=>pure (.bool b))),(((((subA aE (.int 0)))>>=λ v3=>(srcOf v3>>=λ src=>goN (λ x2=>(boolT .And [(((c 804 [x2]))>>=λ v4=>(cmpA .NotEq v4 (.str [110,97,109,101])))]>>=λ ok=>match ok with | true=>(pure [x2]) | false=>pure [])) src fuel 0>>=λ vs=>newL vs)))>>=λ v5=>((((newL []))>>=λ v6=>(cmpA .Eq v5 v6))>>=λ b=>pure (.bool b)))]
theorem den_809 (d fuel:Nat) (aE:AV):callF tb0 fuel (d + 1) 809 [aE]=D809 (callF tb0 fuel d) fuel aE:=(callF_step ..).trans (by kernel_rfl)
noncomputable def kRest (c:CC) (fuel:Nat) (aM x2 p7 p8:AV):PM AV:=
 ((((newL [(.str [105,110,116]),(.str [99,104,97,114])]))>>=λ v9=>(cmpA .In p7 v9))>>=λ tc=>match tc with
 | true=>((boolA .And [(((sliceA x2 (.int 1) .none))>>=λ v10=>((((newL [(.str [110,117,109,98,101,114])]))>>=λ v11=>(cmpA .Eq v10 v11))>>=λ b=>pure (.bool b))),boolA .Or [((cmpA .Eq p7 (.str [105,110,116]))>>=λ b=>pure (.bool b)),((chainA (.int 0) [.LtE,.Lt] [(seqA [(subA aM (.int 1))]>>=λ vs12=>(callB tb0 .int vs12)),(pure (.int 1114112))])>>=λ b=>pure (.bool b))]])>>=λ x13=>((truthA x13)>>=λ tc=>match tc with | true=>(pure (.str [108,105,116,101,114,97,108])) | false=>(pure .none)))
 | false=>((cmpA .Eq p7 (.str [97,112,112]))>>=λ tc=>match tc with
 | true=>((boolT .And [(cmpA .Gt p8 (.int 2)),(((((sliceA x2 (.int 1) .none))>>=λ v15=>(srcOf v15>>=λ src=>goN (λ x14=>(boolT .And [((((c 790 [x14]))>>=λ v16=>(truthA v16))>>=λ b=>pure !b)]>>=λ ok=>match ok with | true=>(pure [x14]) | false=>pure [])) src fuel 0>>=λ vs=>newL vs)))>>=λ v17=>(((newL []))>>=λ v18=>(cmpA .Eq v17 v18)))])>>=λ tc=>match tc with | true=>(pure (.str [99,111,114,101])) | false=>(pure .none))
 | false=>((cmpA .Eq p7 (.str [108,97,109]))>>=λ tc=>match tc with
 | true=>((boolA .And [((cmpA .Eq p8 (.int 3))>>=λ b=>pure (.bool b)),(seqA [(subA aM (.int 1))]>>=λ vs19=>(c 809 vs19)),(((((subA aM (.int 1)))>>=λ v20=>(subA v20 (.int 0))))>>=λ v21=>((((newL []))>>=λ v22=>(cmpA .NotEq v21 v22))>>=λ b=>pure (.bool b))),(seqA [(subA x2 (.int 2))]>>=λ vs23=>(c 790 vs23))])>>=λ x24=>((truthA x24)>>=λ tc=>match tc with | true=>(pure (.str [99,111,114,101])) | false=>(pure .none)))
 | false=>((((newL [(.str [108,101,116]),(.str [108,101,116,114,101,99])]))>>=λ v25=>(cmpA .In p7 v25))>>=λ tc=>match tc with
 | true=>((boolA .And [((cmpA .Eq p8 (.int 3))>>=λ b=>pure (.bool b)),(((subA x2 (.int 1)))>>=λ v26=>((cmpA .Eq v26 (.str [108,105,115,116]))>>=λ b=>pure (.bool b))),(((((subA aM (.int 1)))>>=λ v27=>(subA v27 (.int 0))))>>=λ v28=>((((newL []))>>=λ v29=>(cmpA .NotEq v28 v29))>>=λ b=>pure (.bool b))),(seqA [(subA x2 (.int 2))]>>=λ vs30=>(c 790 vs30))])>>=λ x31=>((boolT .And [(truthA x31),(((((((subA aM (.int 1)))>>=λ v33=>(subA v33 (.int 0))))>>=λ v34=>(srcOf v34>>=λ src=>goN (λ x32=>(boolT .And [((((c 797 [x32]))>>=λ v35=>(truthA v35))>>=λ b=>pure !b)]>>=λ ok=>match ok with | true=>(pure [x32]) | false=>pure [])) src fuel 0>>=λ vs=>newL vs)))>>=λ v36=>(((newL []))>>=λ v37=>(cmpA .Eq v36 v37)))])>>=λ tc=>match tc with | true=>(pure (.str [99,111,114,101])) | false=>(pure .none)))
 | false=>((cmpA .Eq p7 (.str [99,97,115,101]))>>=λ tc=>match tc with
 | true=>((boolA .And [((((newL [(.int 4),(.int 5)]))>>=λ v38=>(cmpA .In p8 v38))>>=λ b=>pure (.bool b)),(seqA [(subA x2 (.int 1))]>>=λ vs39=>(c 790 vs39)),(((sliceA x2 (.int 2) (.int 4)))>>=λ v40=>((((newL [(.str [110,97,109,101]),(.str [108,105,115,116])]))>>=λ v41=>(cmpA .Eq v40 v41))>>=λ b=>pure (.bool b))),(((sliceA x2 (.int 4) .none))>>=λ v42=>((((seqA [(newL []),(newL [(.str [101,108,115,101])])]>>=λ vs43=>(newL vs43)))>>=λ v44=>(cmpA .In v42 v44))>>=λ b=>pure (.bool b)))])>>=λ x45=>((boolT .Or [((truthA x45)>>=λ b=>pure !b),(((((((subA aM (.int 3)))>>=λ v47=>(subA v47 (.int 0))))>>=λ v48=>(srcOf v48>>=λ src=>goN (λ x46=>(boolT .And [(((c 804 [x46]))>>=λ v49=>(cmpA .NotEq v49 (.str [119,97,121])))]>>=λ ok=>match ok with | true=>(pure [x46]) | false=>pure [])) src fuel 0>>=λ vs=>newL vs)))>>=λ v50=>(((newL []))>>=λ v51=>(cmpA .NotEq v50 v51)))])>>=λ tc=>match tc with
 | true=>(pure .none)
 | false=>((boolT .And [(((((subA aM (.int 3)))>>=λ v52=>(subA v52 (.int 0))))>>=λ v53=>(((newL []))>>=λ v54=>(cmpA .Eq v53 v54))),(cmpA .Eq p8 (.int 4))])>>=λ tc=>match tc with | true=>(pure .none) | false=>(pure (.str [99,111,114,101])))))
 | false=>((cmpA .Eq p7 (.str [111,102]))>>=λ tc=>match tc with
 | true=>((boolA .And [((cmpA .Eq p8 (.int 4))>>=λ b=>pure (.bool b)),(((subA x2 (.int 1)))>>=λ v55=>((cmpA .Eq v55 (.str [110,97,109,101]))>>=λ b=>pure (.bool b))),(seqA [(subA aM (.int 2))]>>=λ vs56=>(c 809 vs56)),(seqA [(subA x2 (.int 3))]>>=λ vs57=>(c 790 vs57))])>>=λ x58=>((truthA x58)>>=λ tc=>match tc with | true=>(pure (.str [119,97,121])) | false=>(pure .none)))
 | false=>((cmpA .Eq p7 (.str [105,115]))>>=λ tc=>match tc with
 | true=>((boolT .And [(cmpA .Eq p8 (.int 3)),(((subA x2 (.int 1)))>>=λ v59=>(cmpA .Eq v59 (.str [108,105,116,101,114,97,108]))),(((seqA [(subA x2 (.int 2))]>>=λ vs60=>(c 790 vs60)))>>=λ v61=>(truthA v61))])>>=λ tc=>match tc with | true=>(pure (.str [119,97,121])) | false=>(pure .none))
 | false=>((cmpA .Eq p7 (.str [101,108,115,101]))>>=λ tc=>match tc with
 | true=>((boolT .And [(cmpA .Eq p8 (.int 2)),(((seqA [(subA x2 (.int 1))]>>=λ vs62=>(c 790 vs62)))>>=λ v63=>(truthA v63))])>>=λ tc=>match tc with | true=>(pure (.str [101,108,115,101])) | false=>(pure .none))
 | false=>((cmpA .Eq p7 (.str [112,114,111,103,114,97,109]))>>=λ tc=>match tc with
 | true=>((boolA .And [((cmpA .Gt p8 (.int 1))>>=λ b=>pure (.bool b)),(((subA x2 (.int 1)))>>=λ v64=>((cmpA .Eq v64 (.str [110,97,109,101]))>>=λ b=>pure (.bool b))),(((((sliceA aM (.int 2) .none))>>=λ v66=>(srcOf v66>>=λ src=>goN (λ x65=>(boolT .And [((((c 797 [x65]))>>=λ v67=>(truthA v67))>>=λ b=>pure !b)]>>=λ ok=>match ok with | true=>(pure [x65]) | false=>pure [])) src fuel 0>>=λ vs=>newL vs)))>>=λ v68=>((((newL []))>>=λ v69=>(cmpA .Eq v68 v69))>>=λ b=>pure (.bool b)))])>>=λ x70=>((truthA x70)>>=λ tc=>match tc with | true=>(pure (.str [112,114,111,103,114,97,109])) | false=>(pure .none)))
 | false=>((boolA .And [((cmpA .Gt p8 (.int 1))>>=λ b=>pure (.bool b)),(((subA x2 (.int 1)))>>=λ v71=>((cmpA .Eq v71 (.str [110,97,109,101]))>>=λ b=>pure (.bool b))),(((((sliceA x2 (.int 2) .none))>>=λ v73=>(srcOf v73>>=λ src=>goN (λ x72=>(boolT .And [((((c 790 [x72]))>>=λ v74=>(truthA v74))>>=λ b=>pure !b)]>>=λ ok=>match ok with | true=>(pure [x72]) | false=>pure [])) src fuel 0>>=λ vs=>newL vs)))>>=λ v75=>((((newL []))>>=λ v76=>(cmpA .Eq v75 v76))>>=λ b=>pure (.bool b)))])>>=λ x77=>((truthA x77)>>=λ tc=>match tc with | true=>(pure (.str [99,111,114,101])) | false=>(pure .none))))))))))))
noncomputable def K814 (c:CC) (fuel:Nat) (aM x2:AV):PM AV:=
 ((boolT .Or [(((newL []))>>=λ v3=>(cmpA .Eq aM v3)),(((subA x2 (.int 0)))>>=λ v4=>(cmpA .NotEq v4 (.str [107,101,121])))])>>=λ tc=>match tc with
 | true=>(pure (.str [108,105,115,116]))
 | false=>(((seqA [(subA aM (.int 0)),(callB tb0 .len [aM])]>>=λ vs5=>(if vs5.length≤maxLen then pure (.tup vs5) else PM.fail)))>>=λ v6=>(onPair v6 λ p7 p8=>kRest c fuel aM x2 p7 p8)))
noncomputable def D814 (c:CC) (fuel:Nat) (aM:AV):PM AV:=
 (((srcOf aM>>=λ src=>goN (λ x1=>((c 804 [x1])>>=λ y=>pure [y])) src fuel 0>>=λ vs=>newL vs))>>=λ x2=>K814 c fuel aM x2)
theorem den_814 (d fuel:Nat) (aM:AV):callF tb0 fuel (d + 1) 814 [aM]=D814 (callF tb0 fuel d) fuel aM:=(callF_step ..).trans (by kernel_rfl)
noncomputable def K821_7 (lc2:Lc) (v4:AV) (x7:AV) (kk3:Lc→PM AV):PM AV:=
 (((lk (kvSet (kvSet lc2 (nm "item") v4) (nm "wrong") x7) (nm "wrong"))>>=λ v8=>(cmpA .IsNot v8 .none))>>=λ tc=>match tc with
 | true=>lk (kvSet (kvSet lc2 (nm "item") v4) (nm "wrong") x7) (nm "wrong")
 | false=>(kk3 (kvSet (kvSet lc2 (nm "item") v4) (nm "wrong") x7)))
noncomputable def K821_11 (lc2:Lc) (x11:AV) (c:CC) (fuel:Nat):PM AV:=
 (((lk (kvSet lc2 (nm "kind") x11) (nm "thing"))>>=λ v12=>(methA tb0 v12 (nm "append")>>=λ m13=>(seqA [lk (kvSet lc2 (nm "kind") x11) (nm "kind")]>>=λ vs14=>callM ⟨tb0,c,fuel⟩ m13 v12 vs14)))>>=λ zz=>(((lk (kvSet lc2 (nm "kind") x11) (nm "kind"))>>=λ v15=>(cmpA .Is v15 .none))>>=λ tc=>match tc with | true=>lk (kvSet lc2 (nm "kind") x11) (nm "thing") | false=>(pure .none)))
noncomputable def K821_f3 (aL:AV) (c:CC) (fuel:Nat):PM AV:=
 (((subA aL (.int 0)))>>=λ v5=>(srcOf v5>>=λ src=>forN (λ v4 lc2 kk3=>(((seqA [lk (kvSet lc2 (nm "item") v4) (nm "item")]>>=λ vs6=>(c 821 vs6)))>>=λ x7=>(K821_7 lc2 v4 x7 kk3)))
 (λ lc2=>(((seqA [((lk lc2 (nm "thing"))>>=λ v9=>(subA v9 (.int 0)))]>>=λ vs10=>(c 814 vs10)))>>=λ x11=>(K821_11 lc2 x11 c fuel))) src fuel 0 [(nm "thing",aL)]))
noncomputable def D821 (c:CC) (fuel:Nat) (aL:AV):PM AV:=
 ((((callB tb0 .isinstance [aL,(.bi .str)]))>>=λ v1=>(truthA v1))>>=λ tc=>match tc with
 | true=>(pure .none)
 | false=>(K821_f3 aL c fuel))
theorem den_821 (d fuel:Nat) (aL:AV):callF tb0 fuel (d + 1) 821 [aL]=D821 (callF tb0 fuel d) fuel aL:=(callF_step ..).trans (by kernel_rfl)
noncomputable def D828 (c:CC) (fuel:Nat) (aJ:AV):PM AV:=
 (tryA (c 686 [aJ]) (pure .none))
theorem den_828 (d fuel:Nat) (aJ:AV):callF tb0 fuel (d + 1) 828 [aJ]=D828 (callF tb0 fuel d) fuel aJ:=(callF_step ..).trans (by kernel_rfl)
noncomputable def K835_f1 (c:CC) (x4:AV):PM AV:=
 ((boolT .Or [(((c 828 [(.str [120])]))>>=λ v23=>(cmpA .IsNot v23 .none)),(((c 828 [(.str [124,108,101,116,124])]))>>=λ v24=>(cmpA .IsNot v24 .none)),(((c 828 [(.str [108,101,116])]))>>=λ v25=>(cmpA .Is v25 .none))])>>=λ tc=>match tc with
 | true=>(pure (.bool false))
 | false=>boolA .And [(((seqA [(((subA x4 (.str [116,101,120,116])))>>=λ v26=>(binA .Add v26 (.str [32,120])))]>>=λ vs27=>(c 828 vs27)))>>=λ v28=>((cmpA .IsNot v28 .none)>>=λ b=>pure (.bool b))),(((c 828 [(.str [])]))>>=λ v29=>((cmpA .IsNot v29 .none)>>=λ b=>pure (.bool b)))])
noncomputable def K835_f2 (x4:AV) (c:CC):PM AV:=
 ((boolT .Or [(((seqA [(seqA [(((subA x4 (.str [116,101,120,116])))>>=λ v15=>(binA .Add (.str [40,32]) v15))]>>=λ vs16=>(c 828 vs16))]>>=λ vs17=>(callB tb0 .tuple vs17)))>>=λ v18=>(cmpA .NotEq v18 (.tup [(.int 1),(.int 1)]))),(((seqA [(seqA [(((subA x4 (.str [116,101,120,116])))>>=λ v19=>(binA .Add (.str [40,32,40,32]) v19))]>>=λ vs20=>(c 828 vs20))]>>=λ vs21=>(callB tb0 .tuple vs21)))>>=λ v22=>(cmpA .NotEq v22 (.tup [(.int 1),(.int 3)])))])>>=λ tc=>match tc with
 | true=>(pure (.bool false))
 | false=>(K835_f1 c x4))
noncomputable def K835_t3 (x4:AV) (c:CC):PM AV:=
 ((((seqA [(seqA [(((subA x4 (.str [116,101,120,116])))>>=λ v9=>(binA .Add v9 (.str [41])))]>>=λ vs10=>(c 828 vs10))]>>=λ vs11=>(callB tb0 .tuple vs11)))>>=λ v12=>(((seqA [(subA x4 (.str [114,111,119])),(subA x4 (.str [99,111,108,117,109,110]))]>>=λ vs13=>(if vs13.length≤maxLen then pure (.tup vs13) else PM.fail)))>>=λ v14=>(cmpA .NotEq v12 v14)))>>=λ tc=>match tc with
 | true=>(pure (.bool false))
 | false=>(K835_f2 x4 c))
noncomputable def K835_f4 (c:CC) (x4:AV):PM AV:=
 ((boolT .Or [(((c 828 [(.str [120])]))>>=λ v30=>(cmpA .IsNot v30 .none)),(((c 828 [(.str [124,108,101,116,124])]))>>=λ v31=>(cmpA .IsNot v31 .none)),(((c 828 [(.str [108,101,116])]))>>=λ v32=>(cmpA .Is v32 .none))])>>=λ tc=>match tc with
 | true=>(pure (.bool false))
 | false=>boolA .And [(((seqA [(((subA x4 (.str [116,101,120,116])))>>=λ v33=>(binA .Add v33 (.str [32,120])))]>>=λ vs34=>(c 828 vs34)))>>=λ v35=>((cmpA .IsNot v35 .none)>>=λ b=>pure (.bool b))),(((c 828 [(.str [])]))>>=λ v36=>((cmpA .IsNot v36 .none)>>=λ b=>pure (.bool b)))])
noncomputable def K835_t5 (x6:AV) (x7:AV) (x4:AV) (c:CC):PM AV:=
 ((boolT .Or [(cmpA .Is x6 .none),((((subA x7 (.int 1)))>>=λ v8=>(chainA v8 [.LtE,.LtE] [(callB tb0 .tuple [x6]),(subA x7 (.int 2))]))>>=λ b=>pure !b)])>>=λ tc=>match tc with
 | true=>(pure (.bool false))
 | false=>((cmpA .Is x7 .none)>>=λ tc=>match tc with
 | true=>(K835_t3 x4 c)
 | false=>(K835_f4 c x4)))
noncomputable def K835_f6 (c:CC) (x4:AV):PM AV:=
 ((boolT .Or [(((c 828 [(.str [120])]))>>=λ v55=>(cmpA .IsNot v55 .none)),(((c 828 [(.str [124,108,101,116,124])]))>>=λ v56=>(cmpA .IsNot v56 .none)),(((c 828 [(.str [108,101,116])]))>>=λ v57=>(cmpA .Is v57 .none))])>>=λ tc=>match tc with
 | true=>(pure (.bool false))
 | false=>boolA .And [(((seqA [(((subA x4 (.str [116,101,120,116])))>>=λ v58=>(binA .Add v58 (.str [32,120])))]>>=λ vs59=>(c 828 vs59)))>>=λ v60=>((cmpA .IsNot v60 .none)>>=λ b=>pure (.bool b))),(((c 828 [(.str [])]))>>=λ v61=>((cmpA .IsNot v61 .none)>>=λ b=>pure (.bool b)))])
noncomputable def K835_f7 (x4:AV) (c:CC):PM AV:=
 ((boolT .Or [(((seqA [(seqA [(((subA x4 (.str [116,101,120,116])))>>=λ v47=>(binA .Add (.str [40,32]) v47))]>>=λ vs48=>(c 828 vs48))]>>=λ vs49=>(callB tb0 .tuple vs49)))>>=λ v50=>(cmpA .NotEq v50 (.tup [(.int 1),(.int 1)]))),(((seqA [(seqA [(((subA x4 (.str [116,101,120,116])))>>=λ v51=>(binA .Add (.str [40,32,40,32]) v51))]>>=λ vs52=>(c 828 vs52))]>>=λ vs53=>(callB tb0 .tuple vs53)))>>=λ v54=>(cmpA .NotEq v54 (.tup [(.int 1),(.int 3)])))])>>=λ tc=>match tc with
 | true=>(pure (.bool false))
 | false=>(K835_f6 c x4))
noncomputable def K835_t8 (x4:AV) (c:CC):PM AV:=
 ((((seqA [(seqA [(((subA x4 (.str [116,101,120,116])))>>=λ v41=>(binA .Add v41 (.str [41])))]>>=λ vs42=>(c 828 vs42))]>>=λ vs43=>(callB tb0 .tuple vs43)))>>=λ v44=>(((seqA [(subA x4 (.str [114,111,119])),(subA x4 (.str [99,111,108,117,109,110]))]>>=λ vs45=>(if vs45.length≤maxLen then pure (.tup vs45) else PM.fail)))>>=λ v46=>(cmpA .NotEq v44 v46)))>>=λ tc=>match tc with
 | true=>(pure (.bool false))
 | false=>(K835_f7 x4 c))
noncomputable def K835_f9 (c:CC) (x4:AV):PM AV:=
 ((boolT .Or [(((c 828 [(.str [120])]))>>=λ v62=>(cmpA .IsNot v62 .none)),(((c 828 [(.str [124,108,101,116,124])]))>>=λ v63=>(cmpA .IsNot v63 .none)),(((c 828 [(.str [108,101,116])]))>>=λ v64=>(cmpA .Is v64 .none))])>>=λ tc=>match tc with
 | true=>(pure (.bool false))
 | false=>boolA .And [(((seqA [(((subA x4 (.str [116,101,120,116])))>>=λ v65=>(binA .Add v65 (.str [32,120])))]>>=λ vs66=>(c 828 vs66)))>>=λ v67=>((cmpA .IsNot v67 .none)>>=λ b=>pure (.bool b))),(((c 828 [(.str [])]))>>=λ v68=>((cmpA .IsNot v68 .none)>>=λ b=>pure (.bool b)))])
noncomputable def K835_f10 (x6:AV) (c:CC) (x3:AV) (x7:AV) (x4:AV):PM AV:=
 (((((cmpA .IsNot x6 .none)>>=λ b=>pure (.bool b)))>>=λ v37=>(((((seqA [(c 804 [x3])]>>=λ vs38=>(c 790 vs38)))>>=λ v39=>(truthA v39>>=λ b=>pure (.bool !b))))>>=λ v40=>(cmpA .NotEq v37 v40)))>>=λ tc=>match tc with
 | true=>(pure (.bool false))
 | false=>((cmpA .Is x7 .none)>>=λ tc=>match tc with
 | true=>(K835_t8 x4 c)
 | false=>(K835_f9 c x4)))
noncomputable def K835_6 (c:CC) (x3:AV) (x6:AV) (x4:AV):PM AV:=
 (((c 821 [x3]))>>=λ x7=>((cmpA .IsNot x7 .none)>>=λ tc=>match tc with
 | true=>(K835_t5 x6 x7 x4 c)
 | false=>(K835_f10 x6 c x3 x7 x4)))
noncomputable def K835_3 (c:CC) (x1:AV) (x3:AV):PM AV:=
 (((newO (.dict [(nm "text",(.str [])),(nm "row",(.int 1)),(nm "column",(.int 1))])))>>=λ x4=>((c 783 [x1,x3,x4])>>=λ zz=>(((seqA [(subA x4 (.str [116,101,120,116]))]>>=λ vs5=>(c 828 vs5)))>>=λ x6=>(K835_6 c x3 x6 x4))))
noncomputable def D835 (c:CC) (fuel:Nat) (aT:AV):PM AV:=
 (((c 693 [aT,(.int 0)]))>>=λ x1=>(((seqA [(c 755 [x1,(.int 3)])]>>=λ vs2=>(c 728 vs2)))>>=λ x3=>(K835_3 c x1 x3)))
theorem den_835 (d fuel:Nat) (aT:AV):callF tb0 fuel (d + 1) 835 [aT]=D835 (callF tb0 fuel d) fuel aT:=(callF_step ..).trans (by kernel_rfl)
noncomputable def W {α:Type} (m:PM α) (Q:α→AH→Prop) (E:AV→AH→Prop) (σ:AH):Prop:=match m σ with
 | none=>False
 | some (.ok a,σ')=>Q a σ'
 | some (.error e,σ')=>E e σ'
section
variable {α β:Type} {Q:α→AH→Prop} {E:AV→AH→Prop} {σ:AH}
theorem W.mono {m:PM α} {Q':α→AH→Prop} {E':AV→AH→Prop} (h:W m Q E σ) (hq:∀ a σ',Q a σ'→Q' a σ') (he:∀ e σ',E e σ'→E' e σ'):W m Q' E' σ:=by
 unfold W at *
 split at h<;>simp_all
theorem W.run {m:PM α} (h:W m Q (λ zz zz=>False) σ):∃ a σ',m σ=some (.ok a,σ')∧Q a σ':=by
 unfold W at h
 split at h
 ·exact h.elim
 ·rename _=some _=>e;exact⟨a,σ',e,h⟩
 ·exact h.elim
theorem W_pure (a:α):W (pure a) Q E σ↔Q a σ:=Iff.rfl
theorem W_bind {Q:β→AH→Prop} (m:PM α) (f:α→PM β):W (m>>=f) Q E σ↔W m (λ a σ'=>W (f a) Q E σ') E σ:=by
 show (match PM.andThen m f σ with | none=>False | some (.ok a,σ')=>Q a σ' | some (.error e,σ')=>E e σ')↔_
 unfold PM.andThen W
 cases m σ with
 | none=>exact Iff.rfl
 | some p=>obtain⟨r,σ'⟩:=p;cases r<;>exact Iff.rfl
theorem W_fail:W (PM.fail:PM α) Q E σ↔False:=Iff.rfl
theorem W_ofOpt (o:Option α):W (PM.ofOpt o) Q E σ↔∃ a,o=some a∧Q a σ:=by
 cases o with
 | none=>exact⟨λ h=>h.elim,λ ⟨a,h,zz⟩=>nomatch h⟩
 | some a=>exact⟨λ h=>⟨a,rfl,h⟩,λ ⟨b,h,q⟩=>by cases h;exact q⟩
theorem W_lk {Q:AV→AH→Prop} (lc:Lc) (x:Str):W (lk lc x) Q E σ↔∃ a,kvGet lc x=some a∧Q a σ:=W_ofOpt _
theorem W_ite_fail {c:Prop} [Decidable c] (a:PM α):W (if c then a else PM.fail) Q E σ↔c∧W a Q E σ:=by
 by_cases h:c<;>simp [h,W_fail]
end
section
variable {Q:AV→AH→Prop} {E:AV→AH→Prop} {σ:AH}
theorem W_newO (o:AO):W (newO o) Q E σ↔Q (.obj σ.length) (σ++[o]):=Iff.rfl
theorem W_newL (l:List AV):W (newL l) Q E σ↔l.length≤maxLen∧Q (.obj σ.length) (σ++[.list l]):=by
 unfold newL
 rw [W_ite_fail,W_newO]
theorem W_getO {Q:AO→AH→Prop} (i:Nat):W (getO i) Q E σ↔∃ o,σ[i]? = some o∧Q o σ:=by
 unfold W getO
 cases h:σ[i]? with
 | none=>simp
 | some o=>simp
theorem W_lsO {Q:List AV→AH→Prop} (i:Nat):W (lsO i) Q E σ↔∃ l,σ[i]? = some (.list l)∧Q l σ:=by
 unfold lsO
 rw [W_bind,W_getO]
 constructor
 ·rintro⟨o,h,w⟩
  cases o with
  | list l=>exact⟨l,h,w⟩
  | inst zz zy=>exact w.elim
  | dict zz=>exact w.elim
 ·rintro⟨l,h,q⟩
  exact⟨_,h,q⟩
theorem W_seqA_nil {Q:List AV→AH→Prop}:W (seqA []) Q E σ↔Q [] σ:=Iff.rfl
theorem W_seqA_cons {Q:List AV→AH→Prop} (m:PM AV) (r:List (PM AV)):W (seqA (m :: r)) Q E σ↔W m (λ v σ'=>W (seqA r) (λ vs σ''=>Q (v :: vs) σ'') E σ') E σ:=by
 conv=>lhs;unfold seqA
 simp only [W_bind,W_pure]
theorem W_subA_list (i:Nat) (k:Int):W (subA (.obj i) (.int k)) Q E σ↔∃ l,σ[i]? = some (.list l)∧∃ v,((placeOf k l.length).bind λ j=>l[j]?)=some v∧Q v σ:=by
 unfold subA
 rw [W_bind,W_getO]
 constructor
 ·rintro⟨o,h,w⟩
  cases o with
  | list l=>exact⟨l,h,(W_ofOpt _).mp w⟩
  | inst zz zy=>exact w.elim
  | dict zz=>exact w.elim
 ·rintro⟨l,h,q⟩
  exact⟨_,h,(W_ofOpt _).mpr q⟩
theorem W_subA_dict (i:Nat) (s:List Nat):W (subA (.obj i) (.str s)) Q E σ↔∃ fs,σ[i]? = some (.dict fs)∧∃ v,kvGet fs ⟨s.toArray⟩=some v∧Q v σ:=by
 unfold subA
 rw [W_bind,W_getO]
 constructor
 ·rintro⟨o,h,w⟩
  cases o with
  | dict l=>exact⟨l,h,(W_ofOpt _).mp w⟩
  | inst zz zy=>exact w.elim
  | list zz=>exact w.elim
 ·rintro⟨l,h,q⟩
  exact⟨_,h,(W_ofOpt _).mpr q⟩
theorem W_setItem_list {Q:Unit→AH→Prop} (i:Nat) (k:Int) (v:AV):W (setItemA (.obj i) (.int k) v) Q E σ↔∃ l,σ[i]? = some (.list l)∧(0≤k∧k < l.length)∧Q () (σ.set i (.list (l.set k.toNat v))):=by
 unfold setItemA
 rw [W_bind,W_getO]
 constructor
 ·rintro⟨o,h,w⟩
  cases o with
  | list l=>exact⟨l,h,(W_ite_fail _).mp w⟩
  | inst zz zy=>exact w.elim
  | dict zz=>exact w.elim
 ·rintro⟨l,h,q⟩
  exact⟨_,h,(W_ite_fail _).mpr q⟩
theorem W_setItem_dict {Q:Unit→AH→Prop} (i:Nat) (s:List Nat) (v:AV):W (setItemA (.obj i) (.str s) v) Q E σ↔∃ fs,σ[i]? = some (.dict fs)∧(kvGet fs ⟨s.toArray⟩).isSome=true∧Q () (σ.set i (.dict (kvSet fs ⟨s.toArray⟩ v))):=by
 unfold setItemA
 rw [W_bind,W_getO]
 constructor
 ·rintro⟨o,h,w⟩
  cases o with
  | dict l=>exact⟨l,h,(W_ite_fail _).mp w⟩
  | inst zz zy=>exact w.elim
  | list zz=>exact w.elim
 ·rintro⟨l,h,q⟩
  exact⟨_,h,(W_ite_fail _).mpr q⟩
theorem W_cmp {Q:Bool→AH→Prop} (op:CmpOp) (a b:AV):W (cmpA op a b) Q E σ↔∃ r,cmpV σ op a b=some r∧Q r σ:=by
 unfold W cmpA
 cases cmpV σ op a b<;>simp
theorem W_truth {Q:Bool→AH→Prop} (b:Bool):W (truthA (.bool b)) Q E σ↔Q b σ:=Iff.rfl
theorem W_add (a b:Int):W (binA .Add (.int a) (.int b)) Q E σ↔Q (.int (a + b)) σ:=Iff.rfl
theorem W_sub (a b:Int):W (binA .Sub (.int a) (.int b)) Q E σ↔Q (.int (a - b)) σ:=Iff.rfl
theorem W_addS (a b:List Nat):W (binA .Add (.str a) (.str b)) Q E σ↔a.length + b.length≤maxLen∧Q (.str (a++b)) σ:=W_ite_fail _
theorem W_addL (i j:Nat):W (binA .Add (.obj i) (.obj j)) Q E σ↔∃ a b,σ[i]? = some (.list a)∧σ[j]? = some (.list b)∧(a++b).length≤maxLen∧Q (.obj σ.length) (σ++[.list (a++b)]):=by
 show W (lsO i>>=λ a=>lsO j>>=λ b=>newL (a++b)) Q E σ↔_
 simp only [W_bind,W_lsO,W_newL]
 constructor
 ·rintro⟨a,h,b,h2,q⟩;exact⟨a,b,h,h2,q⟩
 ·rintro⟨a,b,h,h2,q⟩;exact⟨a,h,b,h2,q⟩
theorem W_mul (a b:Int):W (binA .Mult (.int a) (.int b)) Q E σ↔(smallI a || smallI b)=true∧Q (.int (a * b)) σ:=W_ite_fail _
theorem W_fdiv (a b:Int):W (binA .FloorDiv (.int a) (.int b)) Q E σ↔(b≠0∧smallI b=true)∧Q (.int (a.fdiv b)) σ:=W_ite_fail _
theorem W_mod (a b:Int):W (binA .Mod (.int a) (.int b)) Q E σ↔b≠0∧Q (.int (a.fmod b)) σ:=W_ite_fail _
theorem W_len_obj (T:Tb) (i:Nat):W (callB T .len [.obj i]) Q E σ↔∃ l,σ[i]? = some (.list l)∧Q (.int l.length) σ:=by
 show W (lsO i>>=λ l=>pure (.int l.length)) Q E σ↔_
 simp only [W_bind,W_lsO,W_pure]
theorem W_len_str (T:Tb) (s:List Nat):W (callB T .len [.str s]) Q E σ↔Q (.int s.length) σ:=Iff.rfl
theorem W_int (T:Tb) (a:Int):W (callB T .int [.int a]) Q E σ↔Q (.int a) σ:=Iff.rfl
theorem W_range1 (T:Tb) (b:Int):W (callB T .range [.int b]) Q E σ↔smallI b=true∧Q (.rng 0 b) σ:=W_ite_fail _
noncomputable def isOf (T:Tb) (σ:AH) (v:AV) (c:AV):Option Bool:=match c with
 | .tup []=>none
 | .tup (c :: l)=>instAny T σ v (c :: l)
 | c=>instOne T σ v c
theorem W_inst (T:Tb) (v c:AV):W (callB T .isinstance [v,c]) Q E σ↔∃ b,isOf T σ v c=some b∧Q (.bool b) σ:=by
 have e:callB T .isinstance [v,c]=λ σ=>match isOf T σ v c with
  | some b=>some (.ok (.bool b),σ)
  | none=>none:=by
  show instA T v c=_
  funext σ
  unfold instA isOf
  cases c<;>try rfl
 rw [e]
 unfold W
 cases h:isOf T σ v c<;>simp [h]
theorem W_onPair (a b:AV) (k:AV→AV→PM AV):W (onPair (.tup [a,b]) k) Q E σ↔W (k a b) Q E σ:=Iff.rfl
theorem W_slice_obj (i:Nat) (lo hi:AV):W (sliceA (.obj i) lo hi) Q E σ↔∃ l,σ[i]? = some (.list l)∧∃ r,sliceL l lo hi=some r∧Q (.obj σ.length) (σ++[.list r]):=by
 show W (lsO i>>=λ l=>PM.ofOpt (sliceL l lo hi)>>=λ r=>newO (.list r)) Q E σ↔_
 simp only [W_bind,W_lsO,W_ofOpt,W_newO]
end
section
variable {α β:Type} {E:AV→AH→Prop} {σ:AH}
theorem W.rw {m m':PM α} {Q:α→AH→Prop} (e:m=m') (h:W m' Q E σ):W m Q E σ:=e▸h
theorem W.bind {m:PM α} {f:α→PM β} {Q:β→AH→Prop} (h:W m (λ a σ'=>W (f a) Q E σ') E σ):W (m>>=f) Q E σ:=(W_bind m f).mpr h
theorem W.ret {a:α} {Q:α→AH→Prop} (h:Q a σ):W (pure a) Q E σ:=h
theorem W.seq {m:PM AV} {r:List (PM AV)} {Q:List AV→AH→Prop} (h:W m (λ v σ'=>W (seqA r) (λ vs σ''=>Q (v :: vs) σ'') E σ') E σ):W (seqA (m :: r)) Q E σ:=(W_seqA_cons m r).mpr h
theorem W.seq0 {Q:List AV→AH→Prop} (h:Q [] σ):W (seqA []) Q E σ:=h
theorem W.newL {l:List AV} {Q:AV→AH→Prop} (h:l.length≤maxLen∧Q (.obj σ.length) (σ++[.list l])):W (newL l) Q E σ:=(W_newL l).mpr h
theorem W.addL {i j:Nat} {Q:AV→AH→Prop} (h:∃ a b,σ[i]? = some (.list a)∧σ[j]? = some (.list b)∧(a++b).length≤maxLen∧Q (.obj σ.length) (σ++[.list (a++b)])):W (binA .Add (.obj i) (.obj j)) Q E σ:=(W_addL i j).mpr h
theorem W.subAL {i:Nat} {k:Int} {Q:AV→AH→Prop} (h:∃ l,σ[i]? = some (.list l)∧∃ v,((placeOf k l.length).bind λ j=>l[j]?)=some v∧Q v σ):W (subA (.obj i) (.int k)) Q E σ:=(W_subA_list i k).mpr h
theorem W.lsO {i:Nat} {Q:List AV→AH→Prop} (h:∃ l,σ[i]? = some (.list l)∧Q l σ):W (Mine.lsO i) Q E σ:=(W_lsO i).mpr h
theorem W.iteF {c:Prop} [Decidable c] {a:PM α} {Q:α→AH→Prop} (h:c∧W a Q E σ):W (if c then a else PM.fail) Q E σ:=(W_ite_fail a).mpr h
theorem W.slice {i:Nat} {lo hi:AV} {Q:AV→AH→Prop} (h:∃ l,σ[i]? = some (.list l)∧∃ r,sliceL l lo hi=some r∧Q (.obj σ.length) (σ++[.list r])):W (sliceA (.obj i) lo hi) Q E σ:=(W_slice_obj i lo hi).mpr h
end
noncomputable def Kp (P:Nat→Prop) (σ σ':AH):Prop:=σ.length≤σ'.length∧∀ i o,¬ P i→σ[i]? = some o→σ'[i]? = some o
noncomputable def NoP:Nat→Prop:=λ zz=>False
theorem Kp.refl {P:Nat→Prop} (σ:AH):Kp P σ σ:=⟨Nat.le_refl _,λ zz zz zz e=>e⟩
theorem Kp.trans {P:Nat→Prop} {σ σ₁ σ₂:AH} (a:Kp P σ σ₁) (b:Kp P σ₁ σ₂):Kp P σ σ₂:=⟨Nat.le_trans a.1 b.1,λ i o n e=>b.2 i o n (a.2 i o n e)⟩
theorem Kp.mono {P P':Nat→Prop} {σ σ':AH} (a:Kp P σ σ') (h:∀ i,i < σ.length→P i→P' i):Kp P' σ σ':=⟨a.1,λ i o n e=>a.2 i o (λ p=>n (h i (List.getElem?_eq_some_iff.mp e).1 p)) e⟩
theorem getApp {σ m:AH} {i:Nat} {o:AO} (e:σ[i]? = some o):(σ++m)[i]? = some o:=by
 rw [List.getElem?_append_left (List.getElem?_eq_some_iff.mp e).1];exact e
theorem Kp.app {P:Nat→Prop} (σ m:AH):Kp P σ (σ++m):=⟨by simp,λ zz zz zz e=>getApp e⟩
theorem Kp.to {P:Nat→Prop} {σ σ':AH} (a:Kp P σ σ') (m:AH):Kp P σ (σ'++m):=a.trans (.app _ _)
theorem Kp.set {P:Nat→Prop} {σ:AH} {i:Nat} (o:AO) (h:P i):Kp P σ (σ.set i o):=⟨by simp,λ j o' n e=>by
 rw [List.getElem?_set_ne (λ q=>n (by rw [← q];exact h))];exact e⟩
theorem Kp.no {P:Nat→Prop} {σ σ':AH} (a:Kp NoP σ σ'):Kp P σ σ':=a.mono λ zz zz h=>h.elim
theorem lt_of_get {σ:AH} {i:Nat} {o:AO} (e:σ[i]? = some o):i < σ.length:=(List.getElem?_eq_some_iff.mp e).1
theorem get_set_self {σ:AH} {i:Nat} {o o':AO} (e:σ[i]? = some o):(σ.set i o')[i]? = some o':=by
 rw [List.getElem?_set_self (lt_of_get e)]
theorem get_push (σ:AH) (o:AO):(σ++[o])[σ.length]? = some o:=List.getElem?_concat_length
inductive Th where
 | w (s:List Nat) | l (ts:List Th)
mutual
noncomputable def wt:Th→Nat
 | .w zz=>12
 | .l ts=>8 + wts ts
noncomputable def wts:List Th→Nat
 | []=>0
 | t :: r=>wt t + wts r
end
mutual
noncomputable def hg:Th→Nat
 | .w zz=>0
 | .l ts=>hgs ts + 1
noncomputable def hgs:List Th→Nat
 | []=>0
 | t :: r=>max (hg t) (hgs r)
end
mutual
noncomputable def wok (ws:List (List Nat)):Th→Prop
 | .w s=>s∈ws
 | .l ts=>woks ws ts
noncomputable def woks (ws:List (List Nat)):List Th→Prop
 | []=>True
 | t :: r=>wok ws t∧woks ws r
end
noncomputable def keyWs:List (List Nat):=[[105,110,116],[99,104,97,114],[97,112,112],[108,97,109],[108,101,116],[108,101,116,114,101,99],[99,97,115,101],[111,102],[105,115],[101,108,115,101],[99,111,110],[112,114,105,109],[112,114,111,103,114,97,109]]
noncomputable def nameWs:List (List Nat):=[[120],[102],[121,46,50],[124,97,32,98,124]]
noncomputable def numWs:List (List Nat):=[[53],[45,55,48],[57,55],[45,49],[49,49,49,52,49,49,50]]
noncomputable def allWs:List (List Nat):=keyWs++nameWs++numWs
structure OkT (b h:Nat) (t:Th):Prop where
 ws:wok allWs t
 le:wt t≤b
 hg:hg t≤h
structure OkTs (b h:Nat) (t:List Th):Prop where
 ws:woks allWs t
 le:wts t≤b
 hg:hgs t≤h
theorem OkT.mono {b h b' h':Nat} {t:Th} (x:OkT b h t) (hb:b≤b') (hh:h≤h'):OkT b' h' t:=⟨x.ws,Nat.le_trans x.le hb,Nat.le_trans x.hg hh⟩
theorem OkTs.mono {b h b' h':Nat} {t:List Th} (x:OkTs b h t) (hb:b≤b') (hh:h≤h'):OkTs b' h' t:=⟨x.ws,Nat.le_trans x.le hb,Nat.le_trans x.hg hh⟩
theorem OkT.word {h:Nat} {s:List Nat} (x:s∈allWs):OkT 12 h (.w s):=⟨by simpa [wok] using x,by simp [wt],by simp [Mine.hg]⟩
theorem OkTs.nil {h:Nat}:OkTs 0 h []:=⟨trivial,Nat.le_refl _,Nat.zero_le _⟩
theorem OkTs.cons {b b' h:Nat} {t:Th} {ts:List Th} (x:OkT b h t) (y:OkTs b' h ts):OkTs (b + b') h (t :: ts):=⟨⟨x.ws,y.ws⟩,by have:=x.le;have:=y.le;simp only [wts];lia,by have:=x.hg;have:=y.hg;simp only [hgs];lia⟩
theorem OkT.list {b h:Nat} {ts:List Th} (x:OkTs b h ts):OkT (b + 8) (h + 1) (.l ts):=⟨by simpa only [wok] using x.ws,by have:=x.le;simp only [wt];lia,by have:=x.hg;simp only [Mine.hg];lia⟩
theorem wts_app:∀ (a b:List Th),wts (a++b)=wts a + wts b
 | [],b=>by simp [wts]
 | t :: r,b=>by simp only [List.cons_append,wts,wts_app r b];lia
theorem hgs_app:∀ (a b:List Th),hgs (a++b)=max (hgs a) (hgs b)
 | [],b=>by simp [hgs]
 | t :: r,b=>by simp only [List.cons_append,hgs,hgs_app r b];exact (Nat.max_assoc ..).symm
theorem woks_app {ws:List (List Nat)}:∀ (a b:List Th),woks ws (a++b)↔woks ws a∧woks ws b
 | [],b=>by simp [woks]
 | t :: r,b=>by simp only [List.cons_append,woks,woks_app r b];exact and_assoc.symm
theorem OkTs.app {b b' h:Nat} {ts us:List Th} (x:OkTs b h ts) (y:OkTs b' h us):OkTs (b + b') h (ts++us):=⟨(woks_app _ _).mpr ⟨x.ws,y.ws⟩,by rw [wts_app];have:=x.le;have:=y.le;lia,by rw [hgs_app];have:=x.hg;have:=y.hg;lia⟩
theorem OkTs.dropLast {b h:Nat} {ts:List Th} (x:OkTs b h ts):OkTs b h ts.dropLast:=by
 rcases List.eq_nil_or_concat ts with rfl | ⟨r,a,rfl⟩
 ·simpa using x
 ·refine rwg (List.concat_eq_append ..) ?_
  refine rwg (List.dropLast_concat ..) ?_
  rw [List.concat_eq_append] at x
  exact⟨((woks_app _ _).mp x.ws).1,by have:=x.le;rw [wts_app] at this;lia,by have:=x.hg;rw [hgs_app] at this;lia⟩
noncomputable def Iv (lo hi:Nat):Nat→Prop:=λ x=>lo≤x∧x < hi
noncomputable def Ix (lo hi j:Nat):Nat→Prop:=λ x=>lo≤x∧x < hi∧x≠j
inductive LsR (σ:AH) (P:Nat→Prop) (v:AV) (hdl:List AV) (Q:(Nat→Prop)→List AV→Prop):Prop
 | mk (i j:Nat) (vs:List AV) (e:v = .obj i) (pi:P i) (pj:P j) (ij:i≠j) (ei:σ[i]? = some (.list (.obj j :: hdl))) (ej:σ[j]? = some (.list vs)) (r:Q (λ x=>P x∧x≠i∧x≠j) vs)
inductive CnR (P:Nat→Prop) (vs:List AV) (Q1:(Nat→Prop)→AV→Prop) (Q2:(Nat→Prop)→List AV→Prop):Prop
 | mk (P1:Nat→Prop) (v:AV) (r:List AV) (e:vs=v :: r) (h1:Q1 (λ x=>P x∧P1 x) v) (h2:Q2 (λ x=>P x∧¬ P1 x) r)
mutual
noncomputable def RepT (σ:AH):(Nat→Prop)→AV→Th→Prop
 | zz,v,.w s=>v = .str s
 | P,v,.l ts=>LsR σ P v [.none,.none] λ P' vs'=>RepTs σ P' vs' ts
noncomputable def RepTs (σ:AH):(Nat→Prop)→List AV→List Th→Prop
 | zz,vs,[]=>vs=[]
 | P,vs,t :: ts=>CnR P vs (λ P' v'=>RepT σ P' v' t) λ P' vs'=>RepTs σ P' vs' ts
end
mutual
theorem RepT.move {σ σ':AH}:∀ (t:Th) {P P':Nat→Prop} {v:AV},RepT σ P v t→(∀ x,P x→P' x)→(∀ i o,P i→σ[i]? = some o→σ'[i]? = some o)→RepT σ' P' v t
 | .w s,P,P',v,x,zz,zy=>by simpa only [RepT] using x
 | .l ts,P,P',v,x,h,k=>by
  simp only [RepT] at x ⊢
  obtain⟨i,j,vs,rfl,a,b,c,d,e,f⟩:=x
  exact⟨i,j,vs,rfl,h _ a,h _ b,c,k _ _ a d,k _ _ b e,RepTs.move ts f (λ x p=>⟨h _ p.1,p.2⟩) λ i o p q=>k i o p.1 q⟩
theorem RepTs.move {σ σ':AH}:∀ (ts:List Th) {P P':Nat→Prop} {vs:List AV},RepTs σ P vs ts→(∀ x,P x→P' x)→(∀ i o,P i→σ[i]? = some o→σ'[i]? = some o)→RepTs σ' P' vs ts
 | [],P,P',vs,x,zz,zy=>by simpa only [RepTs] using x
 | t :: ts,P,P',vs,x,h,k=>by
  simp only [RepTs] at x ⊢
  obtain⟨P1,v,r,rfl,c,d⟩:=x
  exact⟨λ x=>P x∧P1 x,v,r,rfl,RepT.move t c (λ x p=>⟨h _ p.1,p⟩) λ i o p q=>k i o p.1 q,RepTs.move ts d (λ x p=>⟨h _ p.1,λ q=>p.2 q.2⟩) λ i o p q=>k i o p.1 q⟩
end
theorem RepTs.cons {σ:AH} {P P1 P2:Nat→Prop} {v:AV} {vs:List AV} {t:Th} {ts:List Th} (a:RepT σ P1 v t) (b:RepTs σ P2 vs ts) (h1:∀ x,P1 x→P x) (h2:∀ x,P2 x→P x) (hd:∀ x,P1 x→P2 x→False):RepTs σ P (v :: vs) (t :: ts):=by
 simp only [RepTs]
 exact⟨P1,v,vs,rfl,a.move _ (λ x p=>⟨h1 _ p,p⟩) λ zz zz zz e=>e,b.move _ (λ x p=>⟨h2 _ p,λ q=>hd _ q p⟩) λ zz zz zz e=>e⟩
theorem RepTs.one {σ:AH} {P:Nat→Prop} {v:AV} {t:Th} (a:RepT σ P v t):RepTs σ P [v] [t]:=
 RepTs.cons (P2:=λ zz=>False) a (by simp only [RepTs]) (λ zz p=>p) (λ zz p=>p.elim) λ zz zz p=>p
theorem RepTs.app {σ:AH}:∀ {ts us:List Th} {P P1 P2:Nat→Prop} {vs ws:List AV},RepTs σ P1 vs ts→RepTs σ P2 ws us→(∀ x,P1 x→P x)→(∀ x,P2 x→P x)→(∀ x,P1 x→P2 x→False)→RepTs σ P (vs++ws) (ts++us)
 | [],us,P,P1,P2,vs,ws,x,y,h1,h2,hd=>by
  simp only [RepTs] at x
  subst x
  exact RepTs.move us y h2 λ zz zz zz e=>e
 | t :: ts,us,P,P1,P2,vs,ws,x,y,h1,h2,hd=>by
  simp only [RepTs] at x
  obtain⟨P3,v,r,rfl,c,d⟩:=x
  exact RepTs.cons (P2:=λ x=>(P1 x∧¬ P3 x)∨P2 x) c (RepTs.app d y (λ zz p=>.inl p) (λ zz p=>.inr p) λ x p q=>hd x p.1 q) (λ zz p=>h1 _ p.1) (λ x p=>p.elim (λ p=>h1 _ p.1) (h2 _)) λ x p q=>q.elim (λ q=>q.2 p.2) λ q=>hd _ p.1 q
theorem RepTs.length {σ:AH}:∀ {ts:List Th} {P:Nat→Prop} {vs:List AV},RepTs σ P vs ts→vs.length=ts.length
 | [],zz,zy,x=>by simp only [RepTs] at x;subst x;rfl
 | t :: ts,_,_,x=>by
  simp only [RepTs] at x
  obtain⟨P1,v,r,rfl,c,d⟩:=x
  simp [d.length]
theorem RepTs.dropLast {σ:AH}:∀ {ts:List Th} {P:Nat→Prop} {vs:List AV},RepTs σ P vs ts→RepTs σ P vs.dropLast ts.dropLast
 | [],zz,zy,x=>by simp only [RepTs] at x;subst x;simp [RepTs]
 | [t],zz,zy,x=>by
  simp only [RepTs] at x
  obtain⟨P1,v,r,rfl,c,rfl⟩:=x
  simp [RepTs]
 | t :: t' :: ts,P,_,x=>by
  simp only [RepTs] at x
  obtain⟨P1,v,r,rfl,c,P2,v',r',rfl,c',d'⟩:=x
  have:RepTs σ (λ x=>P x∧¬ P1 x) (v' :: r') (t' :: ts):=by simp only [RepTs];exact⟨P2,v',r',rfl,c',d'⟩
  have:=RepTs.dropLast this
  simp only [List.dropLast_cons₂,RepTs]
  exact⟨P1,v,_,rfl,c,this⟩
section
variable {α β:Type} {σ σ₁ σ₂:AH}
theorem run_bind {m:PM α} {f:α→PM β} {v:α} {r:Option (Except AV β×AH)} (h:m σ=some (.ok v,σ₁)) (h2:f v σ₁=r):(m>>=f) σ=r:=by
 show PM.andThen m f σ=r
 unfold PM.andThen
 rw [h];exact h2
theorem run_err {m:PM α} {f:α→PM β} {e:AV} (h:m σ=some (.error e,σ₁)):(m>>=f) σ=some (.error e,σ₁):=by
 show PM.andThen m f σ=_
 unfold PM.andThen
 rw [h]
theorem run_seq {m:PM AV} {r:List (PM AV)} {f:List AV→PM β} {v:AV} {x:Option (Except AV β×AH)} (h:m σ=some (.ok v,σ₁)) (h2:(seqA r>>=λ vs=>f (v :: vs)) σ₁=x):(seqA (m :: r)>>=f) σ=x:=by
 have e:(seqA (m :: r)>>=f)=(m>>=λ v=>seqA r>>=λ vs=>f (v :: vs)):=by
  conv=>lhs;unfold seqA
  simp only [PM.bind_assoc,PM.pure_bind]
 refine rwg (e ..) ?_
 exact run_bind h h2
theorem run_nil {f:List AV→PM β} {x:Option (Except AV β×AH)} (h:f [] σ=x):(seqA []>>=f) σ=x:=h
theorem run_getO {i:Nat} {o:AO} (h:σ[i]? = some o):getO i σ=some (.ok o,σ):=by unfold getO;rw [h]
theorem run_lsO {i:Nat} {l:List AV} (h:σ[i]? = some (.list l)):lsO i σ=some (.ok l,σ):=run_bind (run_getO h) rfl
theorem run_attr {T:Tb} {i C:Nat} {fs:List (Str×AV)} {x:Str} {v:AV} (h:σ[i]? = some (.inst C fs)) (hf:T.fld C x=true) (hv:kvGet fs x=some v):attrA T (.obj i) x σ=some (.ok v,σ):=by
 refine run_bind (run_getO h) ?_
 dsimp only
 rw [if_pos hf,hv];rfl
theorem run_setAttr {T:Tb} {i C:Nat} {fs:List (Str×AV)} {x:Str} {v:AV} (h:σ[i]? = some (.inst C fs)) (hf:T.fld C x=true) (hl:Nat.ble fs.length 20=true):setAttrA T (.obj i) x v σ=some (.ok (),σ.set i (.inst C (kvSet fs x v))):=by
 refine run_bind (run_getO h) ?_
 dsimp only
 rw [if_pos ⟨hf,Nat.le_of_ble_eq_true hl⟩];rfl
theorem run_len {T:Tb} {i:Nat} {l:List AV} (h:σ[i]? = some (.list l)):callB T .len [.obj i] σ=some (.ok (.int l.length),σ):=run_bind (run_lsO h) rfl
theorem place_nat {k n:Nat} (h:k < n):placeOf (k:Int) n=some k:=by
 unfold placeOf
 rw [if_pos (Int.natCast_nonneg k),if_pos (Int.ofNat_lt.mpr h)]
 rfl
theorem run_sub {i k:Nat} {l:List AV} {v:AV} {z:Int} (h:σ[i]? = some (.list l)) (hk:l[k]? = some v) (hz:z=(k:Nat)):subA (.obj i) (.int z) σ=some (.ok v,σ):=by
 refine run_bind (run_getO h) ?_
 subst hz
 dsimp only
 refine rwg (place_nat (List.getElem?_eq_some_iff.mp hk).1 ..) ?_
 show PM.ofOpt l[k]? σ=_
 rw [hk];rfl
theorem run_cmp {op:CmpOp} {a b:AV} {r:Bool} (h:cmpV σ op a b=some r):cmpA op a b σ=some (.ok r,σ):=by unfold cmpA;rw [h]
theorem run_not {m:PM Bool} {b:Bool} (h:m σ=some (.ok b,σ₁)):(m>>=λ b=>pure !b) σ=some (.ok (!b),σ₁):=run_bind h rfl
theorem run_tt {m:PM AV} {b:Bool} (h:m σ=some (.ok (.bool b),σ₁)):(m>>=λ v=>truthA v) σ=some (.ok b,σ₁):=run_bind h rfl
theorem run_or1 {m:PM Bool} {b:Bool} (h:m σ=some (.ok b,σ₁)):boolT .Or [m] σ=some (.ok b,σ₁):=run_bind h (by cases b<;>rfl)
theorem run_and1 {m:PM Bool} {b:Bool} (h:m σ=some (.ok b,σ₁)):boolT .And [m] σ=some (.ok b,σ₁):=run_bind h (by cases b<;>rfl)
theorem run_or {m n:PM Bool} {r:List (PM Bool)} {a b:Bool} (h:m σ=some (.ok a,σ₁)) (h2:a=false→boolT .Or (n :: r) σ₁=some (.ok b,σ₁)):boolT .Or (m :: n :: r) σ=some (.ok (a || b),σ₁):=by
 refine run_bind h ?_
 clear h m
 cases a
 ·exact h2 rfl
 ·rfl
theorem run_and {m n:PM Bool} {r:List (PM Bool)} {a b:Bool} (h:m σ=some (.ok a,σ₁)) (h2:a=true→boolT .And (n :: r) σ₁=some (.ok b,σ₁)):boolT .And (m :: n :: r) σ=some (.ok (a && b),σ₁):=by
 refine run_bind h ?_
 clear h m
 cases a
 ·rfl
 ·exact h2 rfl
theorem run_newL {l:List AV} (h:l.length≤maxLen):newL l σ=some (.ok (.obj σ.length),σ++[.list l]):=by unfold newL;rw [if_pos h];rfl
theorem run_append {X:Cx} {i:Nat} {l:List AV} {f:Mt→PM β} {r:Option (Except AV β×AH)} (h:σ[i]? = some (.list l)) (h2:f .append σ=r):(methA tb0 (.obj i) (nm "append")>>=f) σ=r:=by
 refine run_bind (σ₁:=σ) (v:=.append) ?_ h2
 refine run_bind (run_getO h) ?_
 rfl
theorem run_appendM {X:Cx} {i:Nat} {l:List AV} {v:AV} (h:σ[i]? = some (.list l)) (hl:l.length < maxLen):callM X .append (.obj i) [v] σ=some (.ok .none,σ.set i (.list (l++[v]))):=by
 refine run_bind (run_lsO h) ?_
 refine rwg (if_pos hl ..) ?_
 rfl
theorem run_set {i:Nat} {k:Nat} {l:List AV} {v:AV} {z:Int} (h:σ[i]? = some (.list l)) (hk:Nat.ble (k + 1) l.length=true) (hz:z=(k:Nat)):setItemA (.obj i) (.int z) v σ=some (.ok (),σ.set i (.list (l.set k v))):=by
 refine run_bind (run_getO h) ?_
 subst hz
 dsimp only
 refine rwg (if_pos ⟨Int.natCast_nonneg k,Int.ofNat_lt.mpr (Nat.le_of_ble_eq_true hk)⟩ ..) ?_
 rfl
theorem run_subK {i:Nat} {fs:List (Str×AV)} {x:List Nat} {v:AV} (h:σ[i]? = some (.dict fs)) (hk:kvGet fs ⟨x.toArray⟩=some v):subA (.obj i) (.str x) σ=some (.ok v,σ):=by
 refine run_bind (run_getO h) ?_
 dsimp only
 rw [hk];rfl
theorem run_setK {i:Nat} {fs:List (Str×AV)} {x:List Nat} {v:AV} (h:σ[i]? = some (.dict fs)) (hk:(kvGet fs ⟨x.toArray⟩).isSome=true):setItemA (.obj i) (.str x) v σ=some (.ok (),σ.set i (.dict (kvSet fs ⟨x.toArray⟩ v))):=by
 refine run_bind (run_getO h) ?_
 dsimp only
 refine rwg (if_pos hk ..) ?_
 rfl
theorem W.of {m:PM α} {v:α} {Q:α→AH→Prop} {E:AV→AH→Prop} (h:m σ=some (.ok v,σ₁)) (q:Q v σ₁):W m Q E σ:=by unfold W;rw [h];exact q
theorem run_mod {a b:Int} (h:b≠0):binA .Mod (.int a) (.int b) σ=some (.ok (.int (a.fmod b)),σ):=congrFun (if_pos h) σ
theorem run_fdiv {a b:Int} (h:b≠0∧smallI b=true):binA .FloorDiv (.int a) (.int b) σ=some (.ok (.int (a.fdiv b)),σ):=congrFun (if_pos h) σ
theorem run_mul {a b:Int} (h:(smallI a || smallI b)=true):binA .Mult (.int a) (.int b) σ=some (.ok (.int (a * b)),σ):=congrFun (if_pos h) σ
end
section
theorem nm_inj (s t:String):(nm s=nm t)=(s=t):=by
 apply propext
 constructor
 ·intro h
  have:s.toList.map Char.toNat=t.toList.map Char.toNat:=by
   unfold nm at h
   rw [Str.ofString_eq_toList,Str.ofString_eq_toList] at h
   simpa using h
  have h2:s.toList=t.toList:=(List.map_inj_right λ a b e=>Char.toNat_inj.mp e).mp this
  exact String.toList_inj.mp h2
 ·rintro rfl;rfl
noncomputable def Sr (s:Nat) (σ:AH):Prop:=∃ a b,σ[s]? = some (.list [.int a,.int b])
noncomputable def At1 (s:Nat):Nat→Prop:=λ i=>i=s
theorem Sr.lt {s:Nat} {σ:AH} (h:Sr s σ):s < σ.length:=by obtain⟨a,b,h⟩:=h;exact lt_of_get h
theorem Sr.app {s:Nat} {σ:AH} (h:Sr s σ) (m:AH):Sr s (σ++m):=by obtain⟨a,b,h⟩:=h;exact⟨a,b,getApp h⟩
theorem Kp.get1 {s:Nat} {σ σ':AH} (k:Kp (At1 s) σ σ') {i:Nat} {o:AO} (h:i≠s) (e:σ[i]? = some o):σ'[i]? = some o:=k.2 i o h e
variable {Q:AV→AH→Prop} {E:AV→AH→Prop} {σ:AH}
theorem W_take {d fuel s:Nat} {top:Int} (hd:1≤d) (h:Sr s σ) (h0:0 < top) (h1:top < 100)
  (q:∀ k σ',0≤k→k < top→Sr s σ'→Kp (At1 s) σ σ'→σ'.length=σ.length→Q (.int k) σ'):W (callF tb0 fuel d 700 [.obj s,.int top]) Q E σ:=by
 obtain⟨d,rfl⟩:=Nat.exists_eq_add_of_le' hd
 refine rwg (den_700 ..) ?_
 refine ex21 (h) λ a b h=>?_
 have t0:top≠0:=by lia
 have fin:∀ k a' b',0≤k→k < top→Q (.int k) (σ.set s (.list [.int a',.int b'])):=λ k a' b' h1 h2=>q _ _ h1 h2 ⟨_,_,get_set_self h⟩ (.set _ rfl) List.length_set
 have r0:=run_sub (k:=0) h rfl rfl
 by_cases ha:0 < a
 ·have sm:smallI top=true:=by unfold smallI;simp;lia
  exact .of (run_bind (run_bind r0 (run_cmp (congrArg some (decide_eq_true ha)))) (run_bind (run_bind (run_seq r0 (run_nil rfl)) (run_mod t0)) (run_bind (run_bind r0 (run_fdiv ⟨t0,sm⟩)) (run_bind (run_set (k:=0) h rfl rfl) rfl))))
   (fin _ _ _ (Int.fmod_nonneg_of_pos _ h0) (Int.fmod_lt_of_pos _ h0))
 ·have r1:=run_sub (k:=1) h rfl rfl
  let x:=(b * 39373 + 7).fmod 2147483647
  have sx:smallI x=true:=by
   have:=Int.fmod_nonneg_of_pos (b * 39373 + 7) (b:=2147483647) (by lia);have:=Int.fmod_lt_of_pos (b * 39373 + 7) (b:=2147483647) (by lia)
   unfold smallI;simp;omega
  have r2:=run_sub (σ:=σ.set s (.list [.int a,.int x])) (k:=1) (get_set_self h) rfl rfl
  exact .of (run_bind (run_bind r0 (run_cmp (congrArg some (decide_eq_false ha)))) (run_bind (run_bind (run_seq (run_bind (run_bind r1 (run_mul (Bool.or_eq_true_iff.mpr (.inr rfl)))) rfl) (run_nil rfl)) (run_mod (by decide))) (run_bind (run_set (k:=1) (v:=.int x) h rfl rfl)
   (run_bind (run_seq (run_bind (run_bind (run_seq (run_bind r2 (run_bind r2 (run_mul (Bool.or_eq_true_iff.mpr (.inr sx))))) (run_nil rfl)) (run_mod (by decide))) (run_fdiv (by decide))) (run_nil rfl)) (run_mod t0)))))
   (fin _ _ _ (Int.fmod_nonneg_of_pos _ h0) (Int.fmod_lt_of_pos _ h0))
theorem W_one {d fuel s j:Nat} {vs:List AV} (hd:2≤d) (h:Sr s σ) (hj:σ[j]? = some (.list vs)) (hs:j≠s) (h0:0 < vs.length) (h1:vs.length < 100)
  (q:∀ v σ',v∈vs→Sr s σ'→Kp (At1 s) σ σ'→σ'.length=σ.length→Q v σ'):W (callF tb0 fuel d 707 [.obj s,.obj j]) Q E σ:=by
 obtain⟨d,rfl⟩:=Nat.exists_eq_add_of_le' (show 1≤d by lia)
 refine W.rw (den_707 ..) ?_
 unfold D707
 simp [W_bind,W_pure,W_fail,W_seqA_nil,W_seqA_cons,W_onPair,W_truth,W_add,W_sub,W_addS,W_mul,W_fdiv,W_mod,W_newO,W_newL,W_len_str,W_len_obj,W_int,W_range1,W_ite_fail,hj]
 refine W_take (by lia) h (by lia) (by lia) λ k σ' h2 h3 h4 h5 h6=>?_
 refine W.subAL ?_
 refine⟨vs,h5.get1 hs hj,vs[k.toNat]'(by lia),by rw [(by simp [placeOf,h2,h3]:(placeOf k vs.length)=some k.toNat)];simp,q _ _ (List.getElem_mem _) h4 h5 h6⟩
theorem W_none {α:Type} {m:PM α} {Q:α→AH→Prop} (h:m σ=Option.none):W m Q E σ↔False:=by unfold W;rw [h]
theorem W_eq {α:Type} {m m':PM α} {Q:α→AH→Prop} (h:m σ=m' σ):W m Q E σ↔W m' Q E σ:=by unfold W;rw [h]
theorem W_goN {Q:List AV→AH→Prop} (body:AV→PM (List AV)) (src:Src) (n j:Nat):W (goN body src (n + 1) j) Q E σ↔∃ r,nextA σ src j=some r∧match r with
  | Option.none=>Q [] σ
  | some v=>j < maxLen∧W (body v) (λ x σ₁=>W (goN body src n (j + 1)) (λ y σ₂=>Q (x++y) σ₂) E σ₁) E σ:=by
 have hh:goN body src (n + 1) j σ=(match nextA σ src j with
  | Option.none=>Option.none
  | some Option.none=>some (.ok [],σ)
  | some (some v)=>if j < maxLen then (body v>>=λ x=>goN body src n (j + 1)>>=λ y=>pure (x++y)) σ else Option.none):=rfl
 cases h:nextA σ src j with
 | none=>rw [h] at hh;rw [W_none hh];simp
 | some r=>
  cases r with
  | none=>rw [h] at hh;rw [W_eq (m':=pure []) hh,W_pure];simp
  | some v=>
   rw [h] at hh
   dsimp only at hh
   by_cases hj:j < maxLen
   ·rw [if_pos hj] at hh
    rw [W_eq hh]
    simp only [W_bind,W_pure]
    constructor
    ·intro w;exact⟨_,rfl,hj,w⟩
    ·rintro⟨r,e,w⟩;cases e;exact w.2
   ·rw [if_neg hj] at hh
    rw [W_none hh]
    constructor
    ·exact λ w=>w.elim
    ·rintro⟨r,e,w⟩;cases e;exact hj w.1
theorem W_forN (body:AV→Lc→(Lc→PM AV)→PM AV) (k:Lc→PM AV) (src:Src) (n j:Nat) (lc:Lc):W (forN body k src (n + 1) j lc) Q E σ↔∃ r,nextA σ src j=some r∧match r with
  | Option.none=>W (k lc) Q E σ
  | some v=>W (body v lc λ lc'=>forN body k src n (j + 1) lc') Q E σ:=by
 have hh:forN body k src (n + 1) j lc σ=(match nextA σ src j with
  | Option.none=>Option.none
  | some Option.none=>k lc σ
  | some (some v)=>body v lc (λ lc'=>forN body k src n (j + 1) lc') σ):=rfl
 cases h:nextA σ src j with
 | none=>rw [h] at hh;rw [W_none hh];simp
 | some r=>
  rw [h] at hh
  cases r with
  | none=>rw [W_eq (m':=k lc) hh];simp
  | some v=>rw [W_eq hh];simp
theorem nextA_items (l:List AV) (j:Nat):nextA σ (.items l) j=some l[j]?:=rfl
theorem nextA_lst {i:Nat} {l:List AV} (h:σ[i]? = some (.list l)) (j:Nat):nextA σ (.lst i) j=some l[j]?:=by unfold nextA;dsimp only;rw [h]
theorem W_srcR {Q:Src→AH→Prop} {a b:Int}:W (srcOf (.rng a b)) Q E σ↔b - a≤maxLen∧Q (.items (rangeA a b)) σ:=W_ite_fail _
noncomputable def BT (s b h:Nat) (m:PM AV):Prop:=∀ (σ:AH) (Q E:AV→AH→Prop),Sr s σ→(∀ v t σ',OkT b h t→Sr s σ'→Kp (At1 s) σ σ'→RepT σ' (Iv σ.length σ'.length) v t→Q v σ')→W m Q E σ
noncomputable def BS (s b h:Nat) (m:PM (List AV)):Prop:=∀ (σ:AH) (Q:List AV→AH→Prop) (E:AV→AH→Prop),Sr s σ→(∀ vs ts σ',OkTs b h ts→Sr s σ'→Kp (At1 s) σ σ'→RepTs σ' (Iv σ.length σ'.length) vs ts→Q vs σ')→W m Q E σ
noncomputable def BL (s b h:Nat) (m:PM AV):Prop:=∀ (σ:AH) (Q E:AV→AH→Prop),Sr s σ→(∀ j vs ts σ',OkTs b h ts→Sr s σ'→Kp (At1 s) σ σ'→σ.length≤j→j < σ'.length→σ'[j]? = some (.list vs)→RepTs σ' (Ix σ.length σ'.length j) vs ts→Q (.obj j) σ')→W m Q E σ
noncomputable def BN (s:Nat) (K:Nat) (m:PM AV):Prop:=∀ (σ:AH) (Q E:AV→AH→Prop),Sr s σ→(∀ (k:Nat) σ',k≤K→Sr s σ'→Kp (At1 s) σ σ'→Q (.int k) σ')→W m Q E σ
theorem BT.mono {s b h b' h':Nat} {m:PM AV} (x:BT s b h m) (hb:b≤b') (hh:h≤h'):BT s b' h' m:=λ σ Q E r q=>x σ Q E r λ v t σ' a=>q v t σ' (a.mono hb hh)
theorem BL.mono {s b h b' h':Nat} {m:PM AV} (x:BL s b h m) (hb:b≤b') (hh:h≤h'):BL s b' h' m:=λ σ Q E r q=>x σ Q E r λ j v t σ' a=>q j v t σ' (a.mono hb hh)
theorem BT.word {s h:Nat} {w:List Nat} (hw:w∈allWs):BT s 12 h (pure (.str w)):=λ σ Q E r q=>q _ (.w w) σ (.word hw) r (.refl _) (by simp only [RepT])
theorem BS.nil {s h:Nat}:BS s 0 h (seqA []):=λ σ Q E r q=>q [] [] σ .nil r (.refl _) (by simp only [RepTs])
theorem Kp.trans1 {s:Nat} {σ σ₁ σ₂:AH} (a:Kp (At1 s) σ σ₁) (b:Kp (At1 s) σ₁ σ₂):Kp (At1 s) σ σ₂:=Kp.trans a b
theorem RepT.keep {s n:Nat} {σ₁ σ₂:AH} {P:Nat→Prop} {v:AV} {t:Th} (r:RepT σ₁ P v t) (k:Kp (At1 s) σ₁ σ₂) (hs:s < n) (h:∀ x,P x→n≤x):RepT σ₂ P v t:=
 r.move _ (λ zz p=>p) λ i o p e=>k.get1 (by have:=h i p;lia) e
theorem RepTs.keep {s n:Nat} {σ₁ σ₂:AH} {P:Nat→Prop} {v:List AV} {t:List Th} (r:RepTs σ₁ P v t) (k:Kp (At1 s) σ₁ σ₂) (hs:s < n) (h:∀ x,P x→n≤x):RepTs σ₂ P v t:=
 r.move _ (λ zz p=>p) λ i o p e=>k.get1 (by have:=h i p;lia) e
theorem RepT.sub {σ:AH} {P P':Nat→Prop} {v:AV} {t:Th} (r:RepT σ P v t) (h:∀ x,P x→P' x):RepT σ P' v t:=r.move _ h λ zz zz zz e=>e
theorem RepTs.sub {σ:AH} {P P':Nat→Prop} {v:List AV} {t:List Th} (r:RepTs σ P v t) (h:∀ x,P x→P' x):RepTs σ P' v t:=r.move _ h λ zz zz zz e=>e
theorem rep_cons {s a b c:Nat} {σ₁ σ₂:AH} {v:AV} {vs:List AV} {t:Th} {ts:List Th} (r1:RepT σ₁ (Iv a b) v t) (k:Kp (At1 s) σ₁ σ₂) (r2:RepTs σ₂ (Iv b c) vs ts) (hs:s < a) (h1:a≤b) (h2:b≤c):RepTs σ₂ (Iv a c) (v :: vs) (t :: ts):=
 .cons (r1.keep k hs λ x p=>p.1) r2 (λ x p=>⟨p.1,by have:=p.2;lia⟩) (λ x p=>⟨by have:=p.1;lia,p.2⟩) λ x p q=>by have:=p.2;have:=q.1;lia
theorem BS.cons {s b b' h:Nat} {m:PM AV} {r:List (PM AV)} (x:BT s b h m) (y:BS s b' h (seqA r)):BS s (b + b') h (seqA (m :: r)):=λ σ Q E sr q=>by
 refine W.seq ?_
 exact x σ _ _ sr λ v t σ₁ o1 s1 k1 r1=>y σ₁ _ _ s1 λ vs ts σ₂ o2 s2 k2 r2=>q _ (t :: ts) σ₂ (.cons o1 o2) s2 (k1.trans k2) (rep_cons r1 k2 r2 sr.lt k1.1 k2.1)
theorem OkTs.length {b h:Nat} {ts:List Th} (x:OkTs b h ts):ts.length≤b:=by
 have:∀ ts:List Th,ts.length≤wts ts:=by
  intro ts
  induction ts with
  | nil=>simp
  | cons t r ih=>
   have:1≤wt t:=by cases t<;>simp only [wt]<;>lia
   simp only [List.length_cons,wts];lia
 exact Nat.le_trans (this ts) x.le
theorem BL_push {a:Nat} {σ₁:AH} {vs:List AV} {ts:List Th} (ha:a≤σ₁.length) (r:RepTs σ₁ (Iv a σ₁.length) vs ts):RepTs (σ₁++[AO.list vs]) (Ix a (σ₁++[AO.list vs]).length σ₁.length) vs ts:=
 r.move _ (λ x p=>⟨p.1,by have:=p.2;simp;lia,by have:=p.2;lia⟩) λ i o zz e=>getApp e
theorem BL.new {s b h:Nat} {m:PM (List AV)} (x:BS s b h m) (hb:b≤1000000):BL s b h (m>>=λ vs=>newL vs):=λ σ Q E sr q=>by
 refine W.bind ?_
 refine x σ _ _ sr λ vs ts σ₁ o1 s1 k1 r1=>?_
 refine W.newL ?_
 exact⟨by have:=r1.length;have:=o1.length;unfold maxLen;lia,q _ vs ts _ o1 (s1.app _) (k1.to _) k1.1 (by simp) (get_push _ _) (BL_push k1.1 r1)⟩
theorem BL.app {s b b' h:Nat} {m m':PM AV} (x:BL s b h m) (y:BL s b' h m') (hb:b + b'≤1000000):BL s (b + b') h (m>>=λ v=>m'>>=λ w=>binA .Add v w):=λ σ Q E sr q=>by
 refine W.bind ?_
 refine x σ _ _ sr λ j vs ts σ₁ o1 s1 k1 l1 g1 e1 r1=>?_
 refine W.bind ?_
 refine y σ₁ _ _ s1 λ j' vs' ts' σ₂ o2 s2 k2 l2 g2 e2 r2=>?_
 refine W.addL ?_
 have n1:∀ i,σ.length≤i→i≠s:=by have:=sr.lt;intro i _;lia
 refine⟨vs,vs',k2.get1 (n1 _ l1) e1,e2,by simp [r1.length,r2.length,maxLen];have:=o1.length;have:=o2.length;lia,q _ _ (ts++ts') _ (o1.app o2) (s2.app _) ((k1.trans k2).to _) (Nat.le_trans k1.1 k2.1) (by simp) (get_push _ _) ?_⟩
 have a1:=k1.1
 have a2:=k2.1
 refine RepTs.app ((r1.keep k2 sr.lt λ x p=>p.1).move _ (λ zz p=>p) λ i o zz e=>getApp e) (r2.move _ (λ zz p=>p) λ i o zz e=>getApp e) (λ x p=>⟨p.1,by have:=p.2.1;simp;lia,by have:=p.2.1;lia⟩) (λ x p=>⟨by have:=p.1;lia,by have:=p.2.1;simp;lia,by have:=p.2.1;lia⟩) λ x p q=>by have:=p.2.1;have:=q.1;lia
theorem BT_push {σ σ₁:AH} {j:Nat} {vs:List AV} {ts:List Th} (l1:σ.length≤j) (g1:j < σ₁.length) (e1:σ₁[j]? = some (.list vs)) (r1:RepTs σ₁ (Ix σ.length σ₁.length j) vs ts):
  RepT (σ₁++[AO.list [.obj j,.none,.none]]) (Iv σ.length (σ₁++[AO.list [.obj j,.none,.none]]).length) (.obj σ₁.length) (.l ts):=by
 simp only [RepT]
 refine⟨σ₁.length,j,vs,rfl,⟨by lia,by simp⟩,⟨l1,by simp;lia⟩,by lia,get_push _ _,getApp e1,r1.move _ (λ x p=>⟨⟨p.1,by have:=p.2.1;simp;lia⟩,by have:=p.2.1;lia,p.2.2⟩) λ i o zz e=>getApp e⟩
theorem BT.list {d fuel s b h:Nat} {m:PM AV} (hd:1≤d) (x:BL s b h m):BT s (b + 8) (h + 1) (m>>=λ v=>callF tb0 fuel d 728 [v]):=λ σ Q E sr q=>by
 obtain⟨d,rfl⟩:=Nat.exists_eq_add_of_le' hd
 refine W.bind ?_
 refine x σ _ _ sr λ j vs ts σ₁ o1 s1 k1 l1 g1 e1 r1=>?_
 refine W.rw (den_728 ..) ?_
 unfold D728
 refine W.newL ?_
 exact⟨by simp [maxLen],q _ (.l ts) _ (.list o1) (s1.app _) (k1.to _) (BT_push l1 g1 e1 r1)⟩
theorem seqA_one {β:Type} (m:PM AV) (f:List AV→PM β):(seqA [m]>>=f)=(m>>=λ v=>f [v]):=by
 unfold seqA
 rw [PM.bind_assoc]
 show (m>>=λ v=>((seqA []>>=λ vs=>pure (v :: vs))>>=f))=_
 unfold seqA
 rfl
theorem W.one {m:PM AV} {f:List AV→PM AV} {Q:AV→AH→Prop} {E:AV→AH→Prop} {σ:AH} (h:W m (λ v σ'=>W (f [v]) Q E σ') E σ):W (seqA [m]>>=f) Q E σ:=W.rw (seqA_one m f) (W.bind h)
theorem BT.one {s b h:Nat} {m:PM AV} {f:List AV→PM AV} (x:BT s b h (m>>=λ v=>f [v])):BT s b h (seqA [m]>>=f):=(seqA_one m f).symm▸x
theorem seqA_pure {β:Type} (v:AV) (r:List (PM AV)) (f:List AV→PM β):(seqA (pure v :: r)>>=f)=(seqA r>>=λ vs=>f (v :: vs)):=by
 conv=>lhs;unfold seqA
 simp only [PM.bind_assoc,PM.pure_bind]
theorem BT.pick {d fuel s h:Nat} {ws:List AV} (hd:2≤d) (hw:∀ v∈ws,∃ w,v = .str w∧w∈allWs) (h0:0 < ws.length) (h1:ws.length < 100):BT s 12 h (seqA [pure (.obj s),newL ws]>>=λ vs=>callF tb0 fuel d 707 vs):=λ σ Q E sr q=>by
 refine W.bind (W.seq (W.ret (W.seq (W.newL ⟨by unfold maxLen;lia,W.seq0 (W_one hd (sr.app _) (get_push _ _) (by have:=sr.lt;lia) h0 h1 λ v σ' hv s1 k1 zz=>?_)⟩))))
 obtain⟨w,rfl,h2⟩:=hw v hv
 exact q _ (.w w) σ' (.word h2) s1 ((Kp.app _ _).trans k1) (by simp only [RepT])
theorem BN.pick {d fuel s K:Nat} {ws:List AV} (hd:2≤d) (hw:∀ v∈ws,∃ k:Nat,v = .int k∧k≤K) (h0:0 < ws.length) (h1:ws.length < 100):BN s K (seqA [pure (.obj s),newL ws]>>=λ vs=>callF tb0 fuel d 707 vs):=λ σ Q E sr q=>by
 refine W.bind (W.seq (W.ret (W.seq (W.newL ⟨by unfold maxLen;lia,W.seq0 (W_one hd (sr.app _) (get_push _ _) (by have:=sr.lt;lia) h0 h1 λ v σ' hv s1 k1 zz=>?_)⟩))))
 obtain⟨k,rfl,h2⟩:=hw v hv
 exact q _ σ' h2 s1 ((Kp.app _ _).trans k1)
theorem BN.take {d fuel s K top:Nat} (hd:1≤d) (ht:top=K + 1) (hK:K < 99):BN s K (callF tb0 fuel d 700 [.obj s,.int (top:Nat)]):=λ σ Q E sr q=>by
 refine W_take hd sr (by lia) (by lia) λ k σ' h1 h2 s1 k1 zz=>?_
 obtain⟨k,rfl⟩:=Int.eq_ofNat_of_zero_le h1
 exact q k σ' (by lia) s1 k1
theorem BL.comp {fuel s b h K:Nat} {mc:PM AV} {f:PM AV} (x:BN s K mc) (y:BT s b h f) (hK:K < 100) (hf:1000≤fuel) (hb:K * b≤1000000):
  BL s (K * b) h ((mc>>=λ v=>callB tb0 .range [v])>>=λ v=>(srcOf v>>=λ src=>goN (λ zz=>f>>=λ y=>pure [y]) src fuel 0>>=λ vs=>newL vs)):=λ σ Q E sr q=>by
 refine W.bind (W.bind (x σ _ _ sr λ k σ₁ h1 s1 k1=>?_))
 refine (W_range1 ..).mpr ?_
 refine⟨by unfold smallI;simp;lia,?_⟩
 refine W.bind ((W_srcR ..).mpr ?_)
 refine⟨by unfold maxLen;lia,?_⟩
 have hl:(rangeA 0 k).length=k:=by simp [rangeA]
 have main:∀ n j,j≤k→1000≤n + j→BS s ((k - j) * b) h (goN (λ zz=>f>>=λ y=>pure [y]) (.items (rangeA 0 k)) n j):=by
  intro n
  induction n with
  | zero=>intro j h2 h3;lia
  | succ n ih=>
   intro j h2 h3 σ Q E sr q
   refine (W_goN ..).mpr ?_
   refine⟨_,nextA_items _ _,?_⟩
   by_cases hj:j=k
   ·rw [List.getElem?_eq_none (by lia)]
    exact q [] [] σ (OkTs.nil.mono (by lia) (Nat.le_refl _)) sr (.refl _) (by simp only [RepTs])
   ·rw [List.getElem?_eq_getElem (by lia)]
    dsimp only
    refine⟨by unfold maxLen;lia,?_⟩
    refine W.bind (y σ _ _ sr λ v t σ₁ o1 s1 k1 r1=>W.ret (ih (j + 1) (by lia) (by lia) σ₁ _ _ s1 λ vs ts σ₂ o2 s2 k2 r2=>q _ (t :: ts) σ₂ ((OkTs.cons o1 o2).mono ?_ (Nat.le_refl _)) s2 (k1.trans k2) ?_))
    ·have:k - j=(k - (j + 1)) + 1:=by lia
     rw [this,Nat.add_mul];lia
    ·exact rep_cons r1 k2 r2 sr.lt k1.1 k2.1
 refine W.bind (main fuel 0 (by lia) (by lia) σ₁ _ _ s1 λ vs ts σ₂ o2 s2 k2 r2=>?_)
 have hkb:(k - 0) * b≤K * b:=Nat.mul_le_mul_right b (by lia)
 have a1:=k1.1
 refine W.newL ?_
 exact⟨by have:=r2.length;have:=o2.length;unfold maxLen;lia,q _ vs ts _ (o2.mono hkb (Nat.le_refl _)) (s2.app _) ((k1.trans k2).to _) (Nat.le_trans k1.1 k2.1) (by simp) (get_push _ _) (BL_push (Nat.le_trans k1.1 k2.1) (r2.sub λ x p=>⟨by have:=p.1;lia,p.2⟩))⟩
theorem BL.comp1 {fuel s b h K:Nat} {mc:PM AV} {f:PM AV} (x:BN s K mc) (y:BT s b h f) (hK:K < 100) (hf:1000≤fuel) (hb:K * b≤1000000):
  BL s (K * b) h ((seqA [mc]>>=λ vs=>callB tb0 .range vs)>>=λ v=>(srcOf v>>=λ src=>goN (λ zz=>f>>=λ y=>pure [y]) src fuel 0>>=λ vs=>newL vs)):=by
 rw [seqA_one];exact BL.comp x y hK hf hb
theorem BL.both {s b h:Nat} {f:Bool→PM AV} (x:BL s b h (f true)) (y:BL s b h (f false)) (c:Bool):BL s b h (f c):=by cases c<;>assumption
theorem BL.condE {s b h:Nat} {a c:Int} {f:Bool→PM AV} (x:BL s b h (f true)) (y:BL s b h (f false)):BL s b h (cmpA .Eq (.int a) (.int c)>>=f):=BL.both x y (decide (a=c))
theorem BL.condL {s b h:Nat} {a c:Int} {f:Bool→PM AV} (x:BL s b h (f true)) (y:BL s b h (f false)):BL s b h (cmpA .Lt (.int a) (.int c)>>=f):=BL.both x y (decide (a < c))
end
noncomputable def isW (vs:List AV):Prop:=∀ v∈vs,∃ w,v = .str w∧w∈allWs
noncomputable def BW (s K:Nat) (m:PM AV):Prop:=∀ (σ:AH) (Q E:AV→AH→Prop),Sr s σ→(∀ j vs σ',isW vs→vs.length≤K→Sr s σ'→Kp (At1 s) σ σ'→σ.length≤j→j < σ'.length→σ'[j]? = some (.list vs)→Q (.obj j) σ')→W m Q E σ
theorem isW.nil:isW []:=λ v h=>by simp at h
theorem isW.app {vs ws:List AV} (h:isW vs) (hs:isW ws):isW (vs++ws):=λ v hv=>by
 rcases List.mem_append.mp hv with hv | hv
 ·exact h v hv
 ·exact hs v hv
theorem isW_of (ws:List (List Nat)) (h:ws.all (λ w=>decide (w∈allWs))=true):isW (ws.map .str):=λ v hv=>by
 obtain⟨w,hw,rfl⟩:=List.mem_map.mp hv
 exact⟨w,rfl,by simpa using List.all_eq_true.mp h w hw⟩
theorem BW.new {s K:Nat} {vs:List AV} (h:isW vs) (hk:vs.length=K) (hK:K≤1000):BW s K (newL vs):=λ σ Q E sr q=>by
 refine W.newL ?_
 exact⟨by unfold maxLen;lia,q _ vs _ h (by lia) (sr.app _) (.app _ _) (Nat.le_refl _) (by simp) (get_push _ _)⟩
theorem BW.app {s K K':Nat} {m m':PM AV} (x:BW s K m) (y:BW s K' m') (hb:K + K'≤1000):BW s (K + K') (m>>=λ v=>m'>>=λ w=>binA .Add v w):=λ σ Q E sr q=>by
 refine W.bind ?_
 refine x σ _ _ sr λ j vs σ₁ o1 n1 s1 k1 l1 g1 e1=>?_
 refine W.bind ?_
 refine y σ₁ _ _ s1 λ j' vs' σ₂ o2 n2 s2 k2 l2 g2 e2=>?_
 refine W.addL ?_
 have:=sr.lt
 exact⟨vs,vs',k2.get1 (by lia) e1,e2,by simp [maxLen];lia,q _ _ _ (o1.app o2) (by simp;lia) (s2.app _) ((k1.trans k2).to _) (Nat.le_trans k1.1 k2.1) (by simp) (get_push _ _)⟩
theorem words_rep:∀ (vs:List AV),isW vs→∃ ts,(∀ h,OkTs (12 * vs.length) h ts)∧∀ (σ:AH) P,RepTs σ P vs ts
 | [],zz=>⟨[],λ zz=>.nil,λ zz zz=>by simp only [RepTs]⟩
 | v :: r,hw=>by
  obtain⟨w,rfl,h1⟩:=hw v (by simp)
  obtain⟨ts,o,f⟩:=words_rep r λ v hv=>hw v (by simp [hv])
  refine⟨.w w :: ts,λ h=>(OkTs.cons (.word h1) (o h)).mono (by simp;lia) (Nat.le_refl _),λ σ P=>?_⟩
  simp only [RepTs]
  exact⟨λ zz=>True,_,_,rfl,by simp only [RepT],f _ _⟩
theorem BW.toL {s K h:Nat} {m:PM AV} (x:BW s K m):BL s (12 * K) h m:=λ σ Q E sr q=>by
 refine x σ Q E sr λ j vs σ' o n s1 k l g e=>?_
 refine ex12 (words_rep vs o) λ ts ok f=>?_
 exact q j vs ts σ' ((ok h).mono (Nat.mul_le_mul_left 12 n) (Nat.le_refl _)) s1 k l g e (f _ _)
theorem W_seqA_newL {Q:List AV→AH→Prop} {E:AV→AH→Prop} {σ:AH} (vs:List AV) (r:List (PM AV)) (h:vs.length≤maxLen) (w:W (seqA r) (λ ws σ'=>Q (.obj σ.length :: ws) σ') E (σ++[.list vs])):W (seqA (newL vs :: r)) Q E σ:=by
 refine W.seq (W.newL ?_)
 exact⟨h,w⟩
theorem BW.pick {d fuel s K:Nat} (hd:2≤d):∀ {ls:List (List AV)},0 < ls.length→ls.length < 100→(∀ l∈ls,isW l∧l.length≤K)→K≤1000→BW s K (seqA [pure (.obj s),(seqA (ls.map newL)>>=λ vs=>newL vs)]>>=λ vs=>callF tb0 fuel d 707 vs):=λ {ls} h0 h1 hw hK σ Q E sr q=>by
 rw [seqA_pure]
 refine W.bind (W.seq (W.bind ?_))
 have main:∀ (ls:List (List AV)) (σ:AH) (Q:List AV→AH→Prop),ls.length < 100→(∀ l∈ls,isW l∧l.length≤K)→(∀ vs σ',vs.length=ls.length→(∃ m,σ'=σ++m)→(∀ v∈vs,∃ j l,v = .obj j∧σ.length≤j∧σ'[j]? = some (.list l)∧isW l∧l.length≤K)→Q vs σ')→W (seqA (ls.map newL)) Q E σ:=by
  intro ls
  induction ls with
  | nil=>intro σ Q _ _ q;exact q [] σ rfl ⟨[],by simp⟩ (λ v h=>by simp at h)
  | cons l r ih=>
   intro σ Q h1 hw q
   have:=hw l (by simp)
   rw [List.map_cons]
   refine W_seqA_newL _ _ (by unfold maxLen;lia) (ih _ _ (by simp at h1;lia) (λ l hl=>hw l (by simp [hl])) λ vs σ' h2 h3 h4=>?_)
   obtain⟨m,rfl⟩:=h3
   refine q _ _ (by simp [h2]) ⟨_,List.append_assoc _ _ _⟩ λ v hv=>?_
   rcases List.mem_cons.mp hv with rfl | hv
   ·exact⟨_,l,rfl,Nat.le_refl _,by rw [List.append_assoc,List.getElem?_append_right (Nat.le_refl _)];simp,this⟩
   ·obtain⟨j,l,rfl,a,b,c⟩:=h4 v hv
    exact⟨j,l,rfl,by simp at a;lia,b,c⟩
 refine main ls σ _ h1 hw λ vs σ₁ h2 h3 h4=>?_
 obtain⟨m,rfl⟩:=h3
 refine W.newL ?_
 refine⟨by unfold maxLen;lia,?_⟩
 refine W.seq0 ?_
 refine W_one hd ((sr.app _).app _) (get_push _ _) (by have:=sr.lt;simp;lia) (by lia) (by lia) λ v σ' hv s1 k1 n1=>?_
 obtain⟨j,l,rfl,a,b,c,e⟩:=h4 v hv
 have:=sr.lt
 exact q j l σ' c e s1 (((Kp.app _ _).to _).trans k1) a (by have:=lt_of_get b;rw [n1];simp at this ⊢;lia) (k1.get1 (by lia) (getApp b))
theorem BT.pickW {d fuel s h K:Nat} {m:PM AV} (hd:2≤d) (x:BW s K m) (hK:K < 100) (hne:∀ (σ:AH) (Q E:AV→AH→Prop),Sr s σ→(∀ j vs σ',isW vs→0 < vs.length→vs.length≤K→Sr s σ'→Kp (At1 s) σ σ'→σ.length≤j→σ'[j]? = some (.list vs)→Q (.obj j) σ')→W m Q E σ):
  BT s 12 h (seqA [pure (.obj s),m]>>=λ vs=>callF tb0 fuel d 707 vs):=λ σ Q E sr q=>by
 rw [seqA_pure]
 refine W.bind (W.seq ?_)
 refine hne σ _ _ sr λ j vs σ₁ o n0 n1 s1 k1 l1 e1=>?_
 refine W.seq0 ?_
 have:=sr.lt
 refine W_one hd s1 e1 (by lia) n0 (by lia) λ v σ' hv s2 k2 n2=>?_
 obtain⟨w,rfl,hw⟩:=o v hv
 exact q _ (.w w) σ' (.word hw) s2 (k1.trans k2) (by simp only [RepT])
theorem bt_name {d fuel s h:Nat} (hd:3≤d):BT s 12 h (callF tb0 fuel d 721 [.obj s]):=by
 obtain⟨d,rfl⟩:=Nat.exists_eq_add_of_le' (show 1≤d by lia)
 refine rwg (den_721 ..) ?_
 unfold D721
 have x6:isW ([[120],[102],[121,46,50],[124,97,32,98,124],[120],[102]].map .str):=isW_of _ (by decide +kernel)
 have y:BW s 3 (seqA [pure (.obj s),(seqA ([[],[],[],[AV.str [53],.str [108,101,116],.str [45,55,48]]].map newL)>>=λ vs=>newL vs)]>>=λ vs=>callF tb0 fuel d 707 vs):=
  BW.pick (by lia) (by simp) (by simp) (by
   have e:isW ([[53],[108,101,116],[45,55,48]].map .str):=isW_of _ (by decide +kernel)
   intro l hl
   simp only [List.mem_cons,List.not_mem_nil,or_false] at hl
   rcases hl with rfl | rfl | rfl | rfl
   ·exact⟨.nil,by simp⟩
   ·exact⟨.nil,by simp⟩
   ·exact⟨.nil,by simp⟩
   ·exact⟨e,by simp⟩) (by lia)
 refine BT.pickW (K:=9) (by lia) ((BW.new (K:=6) x6 rfl (by lia)).app y (by lia)) (by lia) λ σ Q E sr q=>?_
 refine W.bind (W.newL ?_)
 refine⟨by simp [maxLen],?_⟩
 refine W.bind ?_
 refine y _ _ _ (sr.app _) λ j vs σ₁ o n s1 k1 l1 g1 e1=>?_
 refine W.addL ?_
 have:=sr.lt
 have a1:=k1.1
 exact⟨_,_,k1.get1 (by lia) (get_push _ _),e1,by simp [maxLen];lia,q _ _ _ (x6.app o) (by simp) (by simp;lia) (s1.app _) (((Kp.app _ _).trans k1).to _) (by simp at a1;lia) (get_push _ _)⟩
theorem bt_names {d fuel s h:Nat} (hd:4≤d) (hf:1000≤fuel):BT s 32 (h + 1) (callF tb0 fuel d 733 [.obj s]):=by
 obtain⟨d,rfl⟩:=Nat.exists_eq_add_of_le' (show 1≤d by lia)
 refine rwg (den_733 ..) ?_
 unfold D733
 rw [seqA_one]
 refine (BT.list (b:=24) (by lia) ?_)
 simp only [seqA_one]
 refine BL.comp (K:=2) (b:=12) (BN.pick (by lia) ?_ (by simp) (by simp)) (bt_name (by lia)) (by lia) hf (by lia)
 intro v hv
 simp only [List.mem_cons,List.not_mem_nil,or_false] at hv
 rcases hv with rfl | rfl | rfl | rfl
 ·exact⟨1,rfl,by lia⟩
 ·exact⟨1,rfl,by lia⟩
 ·exact⟨2,rfl,by lia⟩
 ·exact⟨0,rfl,by lia⟩
noncomputable def bB:Nat→Nat
 | 0=>12
 | k + 1=>220 + 5 * bB k
theorem sub_thing {d fuel s k a:Nat}:(seqA [pure (.obj s),binA .Sub (.int ((k + 1:Nat):Int)) (.int 1)]>>=λ vs=>callF tb0 fuel d a vs)=callF tb0 fuel d a [.obj s,.int (k:Nat)]:=by
 have:((k + 1:Nat):Int) - 1=k:=by lia
 show callF tb0 fuel d a [.obj s,.int (((k + 1:Nat):Int) - 1)]=_
 rw [this]
theorem BT.sub {d fuel s b h k a:Nat} (x:BT s b h (callF tb0 fuel d a [.obj s,.int (k:Nat)])):BT s b h (seqA [pure (.obj s),binA .Sub (.int ((k + 1:Nat):Int)) (.int 1)]>>=λ vs=>callF tb0 fuel d a vs):=sub_thing.symm▸x
theorem bt_bind {d fuel s b h k:Nat} (hd:4≤d) (hf:1000≤fuel) (hb:b≤10000) (x:∀ d',d=d' + 1→BT s b h (callF tb0 fuel d' 762 [.obj s,.int (k:Nat)])):BT s (20 + 2 * b) (h + 1) (callF tb0 fuel d 738 [.obj s,.int ((k + 1:Nat):Int)]):=by
 obtain⟨d,rfl⟩:=Nat.exists_eq_add_of_le' (show 1≤d by lia)
 refine rwg (den_738 ..) ?_
 unfold D738
 rw [seqA_one]
 refine (BT.list (b:=12 + 0 + 2 * b) (by lia) ?_).mono (by lia) (Nat.le_refl _)
 refine BL.app (BL.new (BS.cons (bt_name (by lia)) .nil) (by lia)) ?_ (by lia)
 simp only [sub_thing]
 simp only [seqA_one]
 refine BL.comp (K:=2) (b:=b) (BN.pick (by lia) ?_ (by simp) (by simp)) (x d rfl) (by lia) hf (by lia)
 intro v hv
 simp only [List.mem_cons,List.not_mem_nil,or_false] at hv
 rcases hv with rfl | rfl | rfl | rfl | rfl | rfl
 ·exact⟨1,rfl,by lia⟩
 ·exact⟨1,rfl,by lia⟩
 ·exact⟨1,rfl,by lia⟩
 ·exact⟨1,rfl,by lia⟩
 ·exact⟨0,rfl,by lia⟩
 ·exact⟨2,rfl,by lia⟩
theorem le_max_3 (a b c:AV):[a,b,c].length≤maxLen:=Nat.le_of_ble_eq_true rfl
theorem cmpA_eq (a b:Int):cmpA .Eq (.int a) (.int b)=pure (decide (a=b)):=rfl
theorem cmpA_lt (a b:Int):cmpA .Lt (.int a) (.int b)=pure (decide (a < b)):=rfl
theorem cmpA_le (a b:Int):cmpA .LtE (.int a) (.int b)=pure (decide (a≤b)):=rfl
theorem BT.bindN {s b h K:Nat} {m:PM AV} {f:AV→PM AV} (x:BN s K m) (y:∀ k:Nat,k≤K→BT s b h (f (.int k))):BT s b h (m>>=f):=λ σ Q E sr q=>by
 refine W.bind ?_
 exact x σ _ _ sr λ k σ₁ hk s1 k1=>y k hk σ₁ Q E s1 λ v t σ₂ o s2 k2 r=>q v t σ₂ o s2 (k1.trans k2) (r.sub λ x p=>⟨by have:=k1.1;have:=p.1;lia,p.2⟩)
theorem BL.bindN {s b h K:Nat} {m:PM AV} {f:AV→PM AV} (x:BN s K m) (y:∀ k:Nat,k≤K→BL s b h (f (.int k))):BL s b h (m>>=f):=λ σ Q E sr q=>by
 refine W.bind ?_
 exact x σ _ _ sr λ k σ₁ hk s1 k1=>y k hk σ₁ Q E s1 λ j v t σ₂ o s2 k2 l g e r=>q j v t σ₂ o s2 (k1.trans k2) (Nat.le_trans k1.1 l) g e (r.sub λ x p=>⟨by have:=k1.1;have:=p.1;lia,p.2⟩)
theorem BT.if0 {d fuel s b h K top:Nat} {f:Bool→PM AV} (hd:1≤d) (ht:top=K + 1) (hK:K < 99) (y:∀ c,BT s b h (f c)):BT s b h ((callF tb0 fuel d 700 [.obj s,.int (top:Nat)]>>=λ v=>cmpA .Eq v (.int 0))>>=f):=by
 refine rwg (PM.bind_assoc ..) ?_
 refine BT.bindN (BN.take hd ht hK) λ k zz=>?_
 refine rwg (cmpA_eq ..) ?_
 refine rwg (PM.pure_bind ..) ?_
 exact y _
theorem BT.pick' {d fuel s h:Nat} (ws:List (List Nat)) (hd:2≤d) (hw:ws.all (λ w=>decide (w∈allWs))=true) (h0:0 < ws.length) (h1:ws.length < 100):BT s 12 h (seqA [pure (.obj s),newL (ws.map .str)]>>=λ vs=>callF tb0 fuel d 707 vs):=
 BT.pick hd (isW_of ws hw) (by simpa using h0) (by simpa using h1)
theorem Kp.pull {s:Nat} {σ σ' m:AH} (k:Kp (At1 s) (σ++m) σ'):Kp (At1 s) σ σ':=(Kp.app σ m).trans k
theorem bt_way {d fuel s b h k:Nat} (hd:5≤d) (hf:1000≤fuel) (hb:b≤10000) (hh:1≤h) (x:∀ d',d=d' + 1→BT s b h (callF tb0 fuel d' 762 [.obj s,.int (k:Nat)])):BT s (64 + b) (h + 1) (callF tb0 fuel d 745 [.obj s,.int ((k + 1:Nat):Int)]):=by
 obtain⟨d,rfl⟩:=Nat.exists_eq_add_of_le' (show 1≤d by lia)
 have x:=BT.sub (x d rfl)
 obtain⟨h,rfl⟩:=Nat.exists_eq_add_of_le' hh
 refine rwg (den_745 ..) ?_
 refine BT.if0 (top:=2) (K:=1) (by lia) rfl (by lia) λ c=>?_
 cases c with
 | true=>exact (BT.one (BT.list (b:=12 + (12 + (32 + (b + 0)))) (by lia) (BL.new (BS.cons (BT.word (by decide +kernel)) (BS.cons (bt_name (by lia)) (BS.cons (bt_names (by lia) hf) (BS.cons x .nil)))) (by lia)))).mono (by lia) (Nat.le_refl _)
 | false=>
  intro σ Q E sr q
  refine W.bind ((BT.one (BT.list (h:=h) (b:=12 + (12 + 0)) (by lia) (BL.new (BS.cons (BT.pick' [[105,110,116],[99,104,97,114]] (by lia) (by decide +kernel) (by simp) (by simp)) (BS.cons (BT.pick' [[53],[57,55],[57,55],[45,49],[49,49,49,52,49,49,50]] (by lia) (by decide +kernel) (by simp) (by simp)) .nil)) (by lia)))) σ _ _ sr λ v t σ₁ o1 s1 k1 r1=>?_)
  refine W.one (W.bind (W.seq (W.ret (W.seq (W.bind (W.seq (W.ret (W.seq (W.newL ⟨le_max_3 _ _ _,W.seq0 ?_⟩)))))))))
  have a0:=sr.lt
  have a1:=k1.1
  refine W_one (by lia) (s1.app _) (get_push _ _) (by lia) (by simp) (by simp) λ v2 σ₂ hv s2 k2 n2=>?_
  have a2:=k2.1
  simp at n2
  have main:∃ t2,OkT 32 (h + 1) t2∧RepT σ₂ (Iv σ.length σ₁.length) v2 t2:=by
   simp only [List.mem_cons,List.not_mem_nil,or_false] at hv
   have:=(r1.move (σ':=σ₁++[.list [v,v,.str [120]]]) _ (λ zz p=>p) λ i o zz e=>getApp e).keep k2 a0 λ x p=>p.1
   rcases hv with rfl | rfl | rfl
   ·exact⟨t,o1,this⟩
   ·exact⟨t,o1,this⟩
   ·exact⟨.w [120],(OkT.word (by decide +kernel)).mono (by lia) (Nat.le_refl _),by simp only [RepT]⟩
  obtain⟨t2,o2,r2⟩:=main
  refine W.seq (x σ₂ _ _ s2 λ v3 t3 σ₃ o3 s3 k3 r3=>W.seq0 ?_)
  have a3:=k3.1
  have R:RepTs σ₃ (Iv σ.length σ₃.length) [.str [105,115],v2,v3] [.w [105,115],t2,t3]:=
   RepTs.cons (P1:=λ zz=>False) (P2:=Iv σ.length σ₃.length) (by simp only [RepT]) (RepTs.cons (r2.keep k3 a0 λ x p=>p.1) (RepTs.one r3) (λ x p=>⟨p.1,by have:=p.2;lia⟩) (λ x p=>⟨by have:=p.1;lia,p.2⟩) λ x p q=>by have:=p.2;have:=q.1;lia) (λ zz p=>p.elim) (λ zz p=>p) λ zz p zz=>p
  obtain⟨d,rfl⟩:=Nat.exists_eq_add_of_le' (show 1≤d by lia)
  refine W.newL ⟨le_max_3 _ _ _,?_⟩
  refine W.rw (den_728 ..) (W.newL ⟨le_max_3 _ _ _,?_⟩)
  exact q _ (.l [.w [105,115],t2,t3]) _ ((OkT.list (OkTs.cons (b':=32 + (b + 0)) (OkT.word (by decide +kernel)) (.cons o2 (.cons o3 .nil)))).mono (by lia) (Nat.le_refl _)) ((s3.app _).app _) (((k1.trans (k2.pull.trans k3)).to _).to _) (BT_push (σ:=σ) (σ₁:=σ₃++[.list _]) (by lia) (by simp) (get_push _ _) (BL_push (by lia) R))
theorem BL.upd {s b b' h:Nat} {σ₀ σ:AH} {j:Nat} {vs:List AV} {ts:List Th} {v:AV} {t:Th} {a c:Nat} (s1:Sr s σ) (hs:s < a) (l1:a≤j) (g1:j < c) (e1:σ[j]? = some (.list vs)) (r1:RepTs σ (Ix a c j) vs ts) (r2:RepT σ (Iv c σ.length) v t) (hc:c≤σ.length):
  Sr s (σ.set j (.list (vs++[v])))∧(σ.set j (.list (vs++[v])))[j]? = some (.list (vs++[v]))∧RepTs (σ.set j (.list (vs++[v]))) (Ix a (σ.set j (.list (vs++[v]))).length j) (vs++[v]) (ts++[t]):=by
 have ne:∀ i,i≠j→(σ.set j (.list (vs++[v])))[i]? = σ[i]?:=λ i h=>List.getElem?_set_ne (λ q=>h q.symm)
 refine⟨?_,get_set_self e1,?_⟩
 ·refine ex21 (s1) λ x y e=>?_
  exact⟨x,y,by rw [ne _ (by lia)];exact e⟩
 ·have m1:RepTs (σ.set j (.list (vs++[v]))) (Ix a c j) vs ts:=r1.move _ (λ zz p=>p) λ i o p e=>by rw [ne _ p.2.2];exact e
  refine RepTs.app m1 (RepTs.one (r2.move _ (λ zz p=>p) λ i o p e=>by rw [ne _ (by have:=p.1;lia)];exact e)) (λ x p=>⟨p.1,by have:=p.2.1;simp;lia,p.2.2⟩) (λ x p=>⟨by have:=p.1;lia,by simpa using p.2,by have:=p.1;lia⟩) λ x p q=>by have:=p.2.1;have:=q.1;lia
theorem bt_case {d fuel s b h k:Nat} (hd:6≤d) (hf:1000≤fuel) (hb:b≤10000) (hh:1≤h) (x:∀ d',d' < d→d≤d' + 2→BT s b h (callF tb0 fuel d' 762 [.obj s,.int (k:Nat)])):BL s (180 + 4 * b) (h + 2) (callF tb0 fuel d 750 [.obj s,.int ((k + 1:Nat):Int)]):=by
 obtain⟨d,rfl⟩:=Nat.exists_eq_add_of_le' (show 1≤d by lia)
 have x1:=x d (by lia) (by lia)
 refine rwg (den_750 ..) ?_
 unfold D750
 intro σ Q E sr q
 have ways:BL s (2 * (64 + b)) (h + 1) ((((seqA [(callF tb0 fuel d 700 [(.obj s),(.int 3)])]>>=λ vs2=>(callB tb0 .range vs2)))>>=λ v3=>(srcOf v3>>=λ src=>goN (λ x1=>((callF tb0 fuel d 745 [(.obj s),.int ((k + 1:Nat):Int)])>>=λ y=>pure [y])) src fuel 0>>=λ vs=>newL vs))):=by
  rw [seqA_one]
  exact BL.comp (BN.take (top:=3) (by lia) rfl (by lia)) (bt_way (by lia) hf hb hh λ d' e=>x d' (by lia) (by lia)) (by lia) hf (by lia)
 refine W.bind ?_
 refine ways σ _ _ sr λ j vs ts σ₁ o1 s1 k1 l1 g1 e1 r1=>?_
 have a0:=sr.lt
 have a1:=k1.1
 unfold K750_4
 refine rwg (sub_thing ..) ?_
 refine W.bind (W.bind (W.seq (W.ret (W.seq ?_))))
 refine x1 σ₁ _ _ s1 λ v2 t2 σ₂ o2 s2 k2 r2=>?_
 have a2:=k2.1
 refine W.seq ?_
 refine bt_name (h:=h) (by lia) σ₂ _ _ s2 λ v3 t3 σ₃ o3 s3 k3 r3=>?_
 have a3:=k3.1
 obtain⟨d,rfl⟩:=Nat.exists_eq_add_of_le' (show 1≤d by lia)
 refine W.seq ?_
 refine W.rw (den_728 ..) ?_
 unfold D728
 refine W.newL ?_
 refine⟨by simp [maxLen],?_⟩
 refine W.seq0 (W.newL ?_)
 refine⟨by simp [maxLen],?_⟩
 have R1:RepT (σ₃++[AO.list [.obj j,.none,.none]]) (λ x=>(Ix σ.length σ₁.length j x∨x=j)∨x=σ₃.length) (.obj σ₃.length) (.l ts):=by
  simp only [RepT]
  refine⟨σ₃.length,j,vs,rfl,.inr rfl,.inl (.inr rfl),by lia,get_push _ _,getApp ((k2.trans1 k3).get1 (by lia) e1),?_⟩
  exact ((r1.keep (k2.trans1 k3) a0 λ x p=>p.1).move _ (λ x p=>⟨.inl (.inl p),by have:=p.2.1;lia,p.2.2⟩) λ i o zz e=>getApp e)
 have R2:RepTs (σ₃++[AO.list [.obj j,.none,.none]]) (Iv σ.length (σ₃++[AO.list [.obj j,.none,.none]]).length) [.str [99,97,115,101],v2,v3,.obj σ₃.length] [.w [99,97,115,101],t2,t3,.l ts]:=by
  refine RepTs.cons (P1:=λ zz=>False) (P2:=Iv σ.length (σ₃++[AO.list [.obj j,.none,.none]]).length) (by simp only [RepT]) ?_ (λ zz p=>p.elim) (λ zz p=>p) λ zz p zz=>p
  refine RepTs.cons (P1:=Iv σ₁.length σ₂.length) (P2:=λ x=>Iv σ₂.length σ₃.length x∨(Ix σ.length σ₁.length j x∨x=j)∨x=σ₃.length) ((r2.keep k3 (n:=σ₁.length) (by lia) λ x p=>p.1).move _ (λ zz p=>p) λ i o zz e=>getApp e) ?_ (λ x p=>⟨by have:=p.1;lia,by have:=p.2;simp;lia⟩) (λ x p=>?_) λ x p q=>?_
  ·refine RepTs.cons (r3.move (σ':=σ₃++[AO.list [.obj j,.none,.none]]) _ (λ zz p=>p) λ i o zz e=>getApp e) (RepTs.one R1) (λ zz p=>.inl p) (λ zz p=>.inr p) λ x p q=>?_
   have:=p.1;have:=p.2
   rcases q with (q | q) | q
   ·have:=q.2.1;lia
   ·lia
   ·lia
  ·rcases p with p | (p | p) | p
   ·have:=p.1;have:=p.2;exact⟨by lia,by simp;lia⟩
   ·have:=p.1;have:=p.2.1;exact⟨by lia,by simp;lia⟩
   ·exact⟨by lia,by simp;lia⟩
   ·exact⟨by lia,by simp;lia⟩
  ·have:=p.1;have:=p.2
   rcases q with q | (q | q) | q
   ·have:=q.1;lia
   ·have:=q.2.1;lia
   ·lia
   ·lia
 have R3:=BL_push (by simp;lia) R2
 have S3:=(s3.app [AO.list [.obj j,.none,.none]]).app [AO.list [.str [99,97,115,101],v2,v3,.obj σ₃.length]]
 have E3:=get_push (σ₃++[AO.list [.obj j,.none,.none]]) (AO.list [.str [99,97,115,101],v2,v3,.obj σ₃.length])
 have O3:OkTs (12 + (b + (12 + (2 * (64 + b) + 8 + 0)))) (h + 2) [.w [99,97,115,101],t2,t3,.l ts]:=.cons (.word (by decide +kernel)) (.cons (o2.mono (Nat.le_refl _) (by lia)) (.cons (o3.mono (Nat.le_refl _) (by lia)) (.cons (.list o1) .nil)))
 have K3:Kp (At1 s) σ ((σ₃++[AO.list [.obj j,.none,.none]])++[AO.list [.str [99,97,115,101],v2,v3,.obj σ₃.length]]):=((k1.trans (k2.trans k3)).to _).to _
 generalize hj:(σ₃++[AO.list [AV.obj j,AV.none,AV.none]]).length=j4 at *
 generalize ((σ₃++[AO.list [.obj j,.none,.none]])++[AO.list [.str [99,97,115,101],v2,v3,.obj σ₃.length]])=σ₄ at *
 have a4:=K3.1
 have g4:=lt_of_get E3
 have l4:σ.length≤j4:=by simp at hj;lia
 unfold K750_7
 refine W.bind (W.bind ?_)
 refine BN.take (K:=1) (top:=2) (by lia) rfl (by lia) _ _ _ S3 λ n σ₅ hn s5 k5=>?_
 have a5:=k5.1
 rw [cmpA_eq]
 refine W.ret ?_
 have r5:=R3.keep k5 a0 λ x p=>p.1
 have e5:=k5.get1 (by lia) E3
 cases decide ((n:Int)=0) with
 | false=>
  dsimp only
  refine W.ret ?_
  exact q j4 _ _ σ₅ (O3.mono (by lia) (Nat.le_refl _)) s5 (K3.trans k5) l4 (by lia) e5 (r5.sub λ x p=>⟨p.1,by have:=p.2.1;lia,p.2.2⟩)
 | true=>
  dsimp only
  unfold K750_t1
  rw [sub_thing]
  have els:BT s (20 + b) (h + 1) (seqA [(seqA [(pure (.str [101,108,115,101])),callF tb0 fuel (d + 1) 762 [.obj s,.int (k:Nat)]]>>=λ vs11=>(newL vs11))]>>=λ vs12=>(callF tb0 fuel (d + 1) 728 vs12)):=by
   rw [seqA_one]
   exact (BT.list (b:=12 + (b + 0)) (by lia) (BL.new (BS.cons (BT.word (by decide +kernel)) (BS.cons (x _ (by lia) (by lia)) .nil)) (by lia))).mono (by lia) (Nat.le_refl _)
  have ap:∀ (X:Cx) (m:PM AV) (Q E:AV→AH→Prop),(∀ Q':AV→AH→Prop,(∀ v σ',(∀ l,σ'[j4]? = some (.list l)→l.length < maxLen→Q .none (σ'.set j4 (.list (l++[v]))))→(∃ l,σ'[j4]? = some (.list l)∧l.length < maxLen)→Q' v σ')→W m Q' E σ₅)→W (methA tb0 (.obj j4) (nm "append")>>=λ m9=>(seqA [m]>>=λ vs13=>callM X m9 (.obj j4) vs13)) Q E σ₅:=by
   intro X m Q E w
   have hm:methA tb0 (.obj j4) (nm "append") σ₅=some (.ok .append,σ₅):=by
    unfold methA
    show PM.andThen (getO j4) _ σ₅=_
    unfold PM.andThen getO
    rw [e5]
    rfl
   refine W.bind ?_
   unfold W
   rw [hm]
   show W _ Q E σ₅
   rw [seqA_one]
   refine W.bind ?_
   refine w _ λ v σ' h ⟨l,h2,h3⟩=>?_
   show W (lsO j4>>=λ l=>(if l.length < maxLen then setO j4 (.list (l++[v]))>>=λ zz=>pure .none else PM.fail)) Q E σ'
   refine W.bind (W.lsO ?_)
   refine⟨l,h2,?_⟩
   refine W.iteF ?_
   exact⟨h3,h l h2 h3⟩
  refine W.bind ?_
  refine ap _ _ _ _ λ Q' h'=>els σ₅ _ _ s5 λ v6 t6 σ₆ o6 s6 k6 r6=>?_
  have a6:=k6.1
  have e6:=k6.get1 (by lia) e5
  refine h' v6 σ₆ (λ l e lt=>?_) ⟨_,e6,by simp [maxLen]⟩
  rw [e6] at e
  cases e
  refine W.ret ?_
  obtain⟨S,E',R⟩:=BL.upd (b:=b) (b':=b) (h:=h) (σ₀:=σ) s6 a0 l4 g4 e6 (r5.keep k6 a0 λ x p=>p.1) (r6.sub λ x p=>⟨by have:=p.1;lia,p.2⟩) (by lia)
  have KK:=K3.trans (k5.trans k6)
  exact q j4 _ _ _ ((O3.app (.cons (o6.mono (Nat.le_refl _) (by lia)) .nil)).mono (by lia) (Nat.le_refl _)) S ⟨by simpa using KK.1,λ i o n e=>by rw [List.getElem?_set_ne (by have:=lt_of_get e;lia)];exact KK.2 i o n e⟩ l4 (by simp;lia) E' R
theorem bl_form {d fuel s b h k:Nat} (hd:7≤d) (hf:1000≤fuel) (hb:b≤10000) (hh:1≤h) (x:∀ d',d' < d→d≤d' + 3→BT s b h (callF tb0 fuel d' 762 [.obj s,.int (k:Nat)])):BL s (200 + 5 * b) (h + 2) (callF tb0 fuel d 755 [.obj s,.int ((k + 1:Nat):Int)]):=by
 obtain⟨d,rfl⟩:=Nat.exists_eq_add_of_le' (show 1≤d by lia)
 have x1:=BT.sub (x d (by lia) (by lia))
 have x2:=x1.mono (h':=h + 2) (Nat.le_refl _) (by lia)
 refine rwg (den_755 ..) ?_
 refine BL.bindN (K:=8) (BN.take (top:=9) (by lia) rfl (by lia)) λ k1 hk=>?_
 clear hk
 refine BL.condE ?_ (BL.condE ?_ (BL.condE ?_ (BL.condL ?_ (BL.condL ?_ (BL.condE ?_ ?_)))))
 ·exact (BL.new (b:=12 + (12 + 0)) (BS.cons (BT.pick' [[105,110,116],[99,104,97,114]] (by lia) (by decide +kernel) (by simp) (by simp)) (BS.cons (BT.pick' [[53],[57,55],[45,49],[120]] (by lia) (by decide +kernel) (by simp) (by simp)) .nil)) (by lia)).mono (by lia) (Nat.le_refl _)
 ·exact ((BW.new (s:=s) (K:=1) (isW_of [[97,112,112]] (by decide +kernel)) rfl (by lia)).toL.app (BL.comp (K:=2) (mc:=pure (.int (2:Nat))) (λ σ Q E sr q=>q 2 σ (by lia) sr (.refl _)) x2 (by lia) hf (by lia)) (by lia)).mono (by lia) (Nat.le_refl _)
 ·exact (BL.new (b:=12 + (32 + (b + 0))) (BS.cons (BT.word (by decide +kernel)) (BS.cons (bt_names (by lia) hf) (BS.cons x2 .nil))) (by lia)).mono (by lia) (Nat.le_refl _)
 ·intro σ Q E sr q
  refine W.bind ((BL.comp1 (K:=2) (h:=h + 1) (BN.pick (by lia) ?_ (by simp) (by simp)) (bt_bind (by lia) hf hb λ d' e=>x d' (by lia) (by lia)) (by lia) hf (by lia)) σ _ _ sr λ j vs ts σ₁ o1 s1 k1 l1 g1 e1 r1=>?_)
  ·intro v hv
   simp only [List.mem_cons,List.not_mem_nil,or_false] at hv
   rcases hv with rfl | rfl | rfl | rfl
   ·exact⟨1,rfl,by lia⟩
   ·exact⟨1,rfl,by lia⟩
   ·exact⟨2,rfl,by lia⟩
   ·exact⟨0,rfl,by lia⟩
  have a0:=sr.lt
  have a1:=k1.1
  refine W.bind (W.seq (BT.pick' (h:=h) [[108,101,116],[108,101,116,114,101,99]] (by lia) (by decide +kernel) (by simp) (by simp) σ₁ _ _ s1 λ v2 t2 σ₂ o2 s2 k2 r2=>?_))
  have a2:=k2.1
  obtain⟨d,rfl⟩:=Nat.exists_eq_add_of_le' (show 1≤d by lia)
  refine W.seq (W.rw (den_728 ..) (W.newL ⟨le_max_3 _ _ _,W.seq (x1 _ _ _ (s2.app _) λ v3 t3 σ₃ o3 s3 k3 r3=>?_)⟩))
  have a3:=k3.1
  simp at a3
  refine W.seq0 (W.newL (E:=E) ⟨le_max_3 _ _ _,?_⟩)
  have R1:RepT (σ₂++[AO.list [.obj j,.none,.none]]) (λ x=>(Ix σ.length σ₁.length j x∨x=j)∨x=σ₂.length) (.obj σ₂.length) (.l ts):=by
   simp only [RepT]
   refine⟨σ₂.length,j,vs,rfl,.inr rfl,.inl (.inr rfl),by lia,get_push _ _,getApp (k2.get1 (by lia) e1),?_⟩
   exact ((r1.keep k2 a0 λ x p=>p.1).move _ (λ x p=>⟨.inl (.inl p),by have:=p.2.1;lia,p.2.2⟩) λ i o zz e=>getApp e)
  have R2:RepTs σ₃ (Iv σ.length σ₃.length) [v2,.obj σ₂.length,v3] [t2,.l ts,t3]:=by
   refine RepTs.cons (P1:=Iv σ₁.length σ₂.length) (P2:=λ x=>((Ix σ.length σ₁.length j x∨x=j)∨x=σ₂.length)∨Iv (σ₂.length + 1) σ₃.length x) (((r2.move (σ':=σ₂++[AO.list [.obj j,.none,.none]]) _ (λ zz p=>p) λ i o zz e=>getApp e)).keep k3 (n:=σ₁.length) (by lia) λ x p=>p.1) ?_ (λ x p=>⟨by have:=p.1;lia,by have:=p.2;lia⟩) (λ x p=>?_) λ x p q=>?_
   ·refine RepTs.cons (R1.keep k3 a0 λ x p=>?_) (RepTs.one (by simpa using r3)) (λ zz p=>.inl p) (λ zz p=>.inr p) λ x p q=>?_
    ·rcases p with (p | p) | p
     ·exact p.1
     ·lia
     ·lia
    ·have:=q.1;have:=q.2
     rcases p with (p | p) | p
     ·have:=p.2.1;lia
     ·lia
     ·lia
   ·rcases p with ((p | p) | p) | p
    ·have:=p.1;have:=p.2.1;exact⟨by lia,by lia⟩
    ·exact⟨by lia,by lia⟩
    ·exact⟨by lia,by lia⟩
    ·have:=p.1;have:=p.2;exact⟨by lia,by lia⟩
   ·have:=p.1;have:=p.2
    rcases q with ((q | q) | q) | q
    ·have:=q.2.1;lia
    ·lia
    ·lia
    ·have:=q.1;lia
  exact q _ _ [t2,.l ts,t3] _ ((OkTs.cons (b:=12) (b':=2 * (20 + 2 * b) + 8 + (b + 0)) (o2.mono (Nat.le_refl _) (by lia)) (.cons (.list o1) (.cons (o3.mono (Nat.le_refl _) (by lia)) .nil))).mono (by lia) (Nat.le_refl _)) (s3.app _) ((k1.trans (k2.trans k3.pull)).to _) (by lia) (by simp) (get_push _ _) (BL_push (by lia) R2)
 ·exact (bt_case (by lia) hf hb hh λ d' a b=>x d' (by lia) (by lia)).mono (by lia) (Nat.le_refl _)
 ·exact ((BL.new (BS.cons (BT.pick' (d:=d) (fuel:=fuel) (s:=s) (h:=h + 2) [[99,111,110],[112,114,105,109]] (by lia) (by decide +kernel) (by simp) (by simp)) (BS.cons (bt_name (d:=d) (fuel:=fuel) (by lia)) .nil)) (by lia)).app (BL.comp1 (K:=1) (BN.take (d:=d) (fuel:=fuel) (s:=s) (top:=2) (by lia) rfl (by lia)) x2 (by lia) hf (by lia)) (by lia)).mono (by lia) (Nat.le_refl _)
 ·refine ((BW.pick (d:=d) (fuel:=fuel) (s:=s) (K:=2) (ls:=[[.str [112,114,111,103,114,97,109],.str [120]],[.str [120]],[],[.str [101,108,115,101],.str [120]]]) (by lia) (by simp) (by simp) (by
   intro l hl
   simp only [List.mem_cons,List.not_mem_nil,or_false] at hl
   rcases hl with rfl | rfl | rfl | rfl
   ·exact⟨isW_of [[112,114,111,103,114,97,109],[120]] (by decide +kernel),by simp⟩
   ·exact⟨isW_of [[120]] (by decide +kernel),by simp⟩
   ·exact⟨.nil,by simp⟩
   ·exact⟨isW_of [[101,108,115,101],[120]] (by decide +kernel),by simp⟩) (by lia)).toL (h:=h + 2)).mono (by lia) (Nat.le_refl _)
theorem pred_int (n:Nat):((n:Int) + -1).toNat=n - 1:=by
 cases n with
 | zero=>rfl
 | succ n=>exact congrArg Int.toNat (Int.add_neg_cancel_right (n:Int) 1)
theorem slice_last (vs:List AV):sliceL vs .none (.int (-1))=some vs.dropLast:=by
 show some ((vs.take ((vs.length:Int) + -1).toNat).drop 0)=_
 rw [pred_int,← List.dropLast_eq_take]
 rfl
theorem boolT_or_false (m:PM Bool):boolT .Or [pure false,m]=m:=by
 have e:(λ b=>match BoolOp.Or,b with | .And,false=>(pure false:PM Bool) | .Or,true=>pure true | zz,zy=>boolT .Or [])=λ b=>pure b:=by funext b;cases b<;>rfl
 calc boolT .Or [pure false,m]=(m>>=λ b=>match BoolOp.Or,b with | .And,false=>(pure false:PM Bool) | .Or,true=>pure true | zz,zy=>boolT .Or []):=rfl
  _=m:=by rw [e,PM.bind_pure]
theorem bt_thing {fuel s:Nat} (hf:1000≤fuel):∀ (k d:Nat),4 * k + 4≤d→k≤3→BT s (bB k) (4 * k) (callF tb0 fuel d 762 [.obj s,.int (k:Nat)])
 | 0,d,hd,zz=>by
  obtain⟨d,rfl⟩:=Nat.exists_eq_add_of_le' (show 1≤d by lia)
  refine rwg (den_762 ..) ?_
  unfold D762
  exact bt_name (by lia)
 | k + 1,d,hd,hk=>by
  have ih:=λ d hd=>bt_thing (s:=s) hf k d hd (by lia)
  have hb:bB k≤2000:=by
   match k,hk with
   | 0,zz=>simp [bB]
   | 1,zz=>simp [bB]
   | 2,zz=>simp [bB]
  obtain⟨d,rfl⟩:=Nat.exists_eq_add_of_le' (show 1≤d by lia)
  refine rwg (den_762 ..) ?_
  unfold D762
  have hk0:decide (((k + 1:Nat):Int)≤0)=false:=by simp
  rw [cmpA_le,hk0,boolT_or_false]
  have form:BL s (200 + 5 * bB k) (4 * k + 3) (callF tb0 fuel d 755 [.obj s,.int ((k + 1:Nat):Int)]):=
   (bl_form (b:=bB k) (h:=4 * k + 1) (by lia) hf (by lia) (by lia) λ d' h1 h2=>(ih d' (by lia)).mono (Nat.le_refl _) (by lia))
  refine BT.if0 (top:=3) (K:=2) (by lia) rfl (by lia) λ c=>?_
  cases c with
  | true=>exact (bt_name (by lia)).mono (by simp only [bB];lia) (Nat.le_refl _)
  | false=>
   dsimp only
   intro σ Q E sr q
   refine W.bind ?_
   have a0:=sr.lt
   refine form σ _ _ sr λ j vs ts σ₁ o1 s1 k1 l1 g1 e1 r1=>?_
   refine W.bind ?_
   have a1:=k1.1
   refine BN.take (K:=11) (top:=12) (by lia) rfl (by lia) σ₁ _ _ s1 λ n σ₂ hn s2 k2=>?_
   have a2:=k2.1
   have e2:=k2.get1 (by lia) e1
   have r2:=r1.keep k2 a0 λ x p=>p.1
   have lst:∀ (j':Nat) (vs':List AV) (ts':List Th) (σ':AH),OkTs (212 + 5 * bB k) (4 * k + 3) ts'→Sr s σ'→Kp (At1 s) σ σ'→σ.length≤j'→j' < σ'.length→σ'[j']? = some (.list vs')→RepTs σ' (Ix σ.length σ'.length j') vs' ts'→W (callF tb0 fuel d 728 [.obj j']) Q E σ':=by
    intro j' vs' ts' σ' o s k l g e r
    obtain⟨d,rfl⟩:=Nat.exists_eq_add_of_le' (show 1≤d by lia)
    refine W.rw (den_728 ..) ?_
    unfold D728
    refine W.newL ?_
    exact⟨by simp [maxLen],q _ (.l ts') _ ((OkT.list o).mono (by simp only [bB];lia) (by lia)) (s.app _) (k.to _) (BT_push l g e r)⟩
   have add:∀ (j':Nat) (vs':List AV) (ts':List Th) (σ':AH),OkTs (200 + 5 * bB k) (4 * k + 3) ts'→Sr s σ'→Kp (At1 s) σ σ'→σ.length≤j'→j' < σ'.length→σ'[j']? = some (.list vs')→RepTs σ' (Ix σ.length σ'.length j') vs' ts'→W (((((seqA [(callF tb0 fuel d 721 [.obj s])]>>=λ vs8=>(newL vs8)))>>=λ v9=>(binA .Add (.obj j') v9)))>>=λ x10=>(callF tb0 fuel d 728 [x10])) Q E σ':=by
    intro j' vs' ts' σ' o s' k' l g e r
    refine W.bind (W.bind ?_)
    refine BL.new (b:=12 + 0) (BS.cons (bt_name (h:=4 * k + 3) (by lia)) .nil) (by lia) σ' _ _ s' λ j3 vs3 ts3 σ₃ o3 s3 k3 l3 g3 e3 r3=>?_
    have a3:=k3.1
    refine W.addL ?_
    refine⟨vs',vs3,k3.get1 (by lia) e,e3,by simp [r.length,r3.length,maxLen];have:=o.length;have:=o3.length;lia,?_⟩
    refine lst _ (vs'++vs3) (ts'++ts3) _ ((o.app o3).mono (by lia) (Nat.le_refl _)) (s3.app _) ((k'.trans k3).to _) (by lia) (by simp) (get_push _ _) ?_
    refine RepTs.app ((r.keep k3 a0 λ x p=>p.1).move _ (λ zz p=>p) λ i o zz e=>getApp e) (r3.move _ (λ zz p=>p) λ i o zz e=>getApp e) (λ x p=>⟨p.1,by have:=p.2.1;simp;lia,by have:=p.2.1;lia⟩) (λ x p=>⟨by have:=p.1;lia,by have:=p.2.1;simp;lia,by have:=p.2.1;lia⟩) λ x p q=>by have:=p.2.1;have:=q.1;lia
   simp only [cmpA_eq,PM.pure_bind]
   match n,hn with
   | 0,zz=>
    show W (sliceA (.obj j) .none (.int (-1))>>=λ x4=>callF tb0 fuel d 728 [x4]) Q E σ₂
    refine W.bind (W.slice ?_)
    refine⟨vs,e2,_,slice_last _,lst _ _ ts.dropLast _ (o1.dropLast.mono (by lia) (Nat.le_refl _)) (s2.app _) ((k1.trans k2).to _) (by lia) (by simp) (get_push _ _) ?_⟩
    exact r2.dropLast.move _ (λ x p=>⟨p.1,by have:=p.2.1;simp;lia,by have:=p.2.1;lia⟩) λ i o zz e=>getApp e
   | 1,zz=>
    exact add j vs ts σ₂ o1 s2 (k1.trans k2) l1 (by lia) e2 (r2.sub λ x p=>⟨p.1,by have:=p.2.1;lia,p.2.2⟩)
   | n + 2,zz=>
    have h0:decide (((n + 2:Nat):Int)=0)=false:=by simp;lia
    have h1:decide (((n + 2:Nat):Int)=1)=false:=by simp;lia
    rw [h0]
    dsimp only
    rw [h1]
    dsimp only
    exact lst j vs ts σ₂ (o1.mono (by lia) (Nat.le_refl _)) s2 (k1.trans k2) l1 (by lia) e2 (r2.sub λ x p=>⟨p.1,by have:=p.2.1;lia,p.2.2⟩)
theorem bl_law {d fuel s:Nat} (hd:15≤d) (hf:1000≤fuel):BL s 8300 10 (callF tb0 fuel d 755 [.obj s,.int 3]):=
 bl_form (b:=bB 2) (h:=8) (k:=2) (by lia) hf (by simp [bB]) (by lia) λ d' h1 h2=>bt_thing hf 2 d' (by lia) (by lia)
inductive Tr (α:Type) where
 | w (g s:List Nat) | l (g:List Nat) (a:α) (ts:List (Tr α))
noncomputable abbrev Pos:=Nat×Nat
noncomputable abbrev PP:=Pos×Pos
noncomputable def stp (q:Pos) (c:Nat):Pos:=if c=10 then (q.1 + 1,1) else (q.1,q.2 + 1)
noncomputable def psF (q:Pos) (p:List Nat):Pos:=p.foldl stp q
noncomputable def ps (p:List Nat):Pos:=psF (1,1) p
theorem psF_app (q:Pos) (a b:List Nat):psF q (a++b)=psF (psF q a) b:=List.foldl_append
theorem ps_app (a b:List Nat):ps (a++b)=psF (ps a) b:=psF_app _ _ _
noncomputable def leP (a b:Pos):Prop:=a.1 < b.1∨(a.1=b.1∧a.2≤b.2)
theorem leP.refl (a:Pos):leP a a:=.inr ⟨rfl,Nat.le_refl _⟩
theorem leP.trans {a b c:Pos} (x:leP a b) (y:leP b c):leP a c:=by
 rcases x with x | ⟨x1,x2⟩<;>rcases y with y | ⟨y1,y2⟩
 ·exact .inl (Nat.lt_trans x y)
 ·exact .inl (y1▸x)
 ·exact .inl (x1▸y)
 ·exact .inr ⟨x1.trans y1,Nat.le_trans x2 y2⟩
theorem leP_stp (q:Pos) (c:Nat):leP q (stp q c):=by
 unfold leP stp;split<;>simp
theorem leP_psF:∀ (p:List Nat) (q:Pos),leP q (psF q p)
 | [],q=>.refl q
 | c :: r,q=>(leP_stp q c).trans (leP_psF r (stp q c))
noncomputable def pT (q:Pos):AV:=.tup [.int q.1,.int q.2]
theorem leTup_pT {a b:Pos} (h:leP a b):leTup (pT a) (pT b)=some true:=by
 show some (if ((a.1:Nat):Int)=b.1 then decide (((a.2:Nat):Int)≤b.2) else decide (((a.1:Nat):Int) < b.1))=some true
 rcases h with h | ⟨h,h2⟩
 ·rw [if_neg (by lia),decide_eq_true (by lia)]
 ·rw [if_pos (by lia),decide_eq_true (by lia)]
section
variable {α:Type}
mutual
noncomputable def tx:Tr α→List Nat
 | .w g s=>g++s
 | .l g zz ts=>g++([40]++(txs ts++[41]))
noncomputable def txs:List (Tr α)→List Nat
 | []=>[]
 | t :: r=>tx t++txs r
end
mutual
noncomputable def er:Tr α→Th
 | .w zz s=>.w s
 | .l zz zy ts=>.l (ers ts)
noncomputable def ers:List (Tr α)→List Th
 | []=>[]
 | t :: r=>er t :: ers r
end
noncomputable def gapW:Tr α→List Nat
 | .w g zz=>g
 | .l g zz zy=>g
noncomputable def gaps:List (List Nat):=[[32],[9,32],[10],[32,13,10,32]]
mutual
noncomputable def gk:Tr α→Prop
 | .w zz zy=>True
 | .l zz zy ts=>gks true ts
noncomputable def gks:Bool→List (Tr α)→Prop
 | zz,[]=>True
 | b,t :: r=>(if b=true then gapW t=[] else gapW t∈gaps)∧gk t∧gks false r
end
end
mutual
noncomputable def wp:Pos→Tr PP→Prop
 | zz,.w zy zx=>True
 | q,.l g (a,b) ts=>a=psF q g∧b=psF (psF q (g++[40])) (txs ts)∧wps (psF q (g++[40])) ts
noncomputable def wps:Pos→List (Tr PP)→Prop
 | zz,[]=>True
 | q,t :: r=>wp q t∧wps (psF q (tx t)) r
end
section
variable {α:Type} {hd:α→List AV}
mutual
noncomputable def RepA (hd:α→List AV) (σ:AH):(Nat→Prop)→AV→Tr α→Prop
 | zz,v,.w zy s=>v = .str s
 | P,v,.l zz a ts=>LsR σ P v (hd a) λ P' vs'=>RepAs hd σ P' vs' ts
noncomputable def RepAs (hd:α→List AV) (σ:AH):(Nat→Prop)→List AV→List (Tr α)→Prop
 | zz,vs,[]=>vs=[]
 | P,vs,t :: ts=>CnR P vs (λ P' v'=>RepA hd σ P' v' t) λ P' vs'=>RepAs hd σ P' vs' ts
end
mutual
theorem RepA.move {σ σ':AH}:∀ (t:Tr α) {P P':Nat→Prop} {v:AV},RepA hd σ P v t→(∀ x,P x→P' x)→(∀ i o,P i→σ[i]? = some o→σ'[i]? = some o)→RepA hd σ' P' v t
 | .w g s,P,P',v,x,zz,zy=>by simpa only [RepA] using x
 | .l g a ts,P,P',v,x,h,k=>by
  simp only [RepA] at x ⊢
  obtain⟨i,j,vs,rfl,a,b,c,d,e,f⟩:=x
  exact⟨i,j,vs,rfl,h _ a,h _ b,c,k _ _ a d,k _ _ b e,RepAs.move ts f (λ x p=>⟨h _ p.1,p.2⟩) λ i o p q=>k i o p.1 q⟩
theorem RepAs.move {σ σ':AH}:∀ (ts:List (Tr α)) {P P':Nat→Prop} {vs:List AV},RepAs hd σ P vs ts→(∀ x,P x→P' x)→(∀ i o,P i→σ[i]? = some o→σ'[i]? = some o)→RepAs hd σ' P' vs ts
 | [],P,P',vs,x,zz,zy=>by simpa only [RepAs] using x
 | t :: ts,P,P',vs,x,h,k=>by
  simp only [RepAs] at x ⊢
  obtain⟨P1,v,r,rfl,c,d⟩:=x
  exact⟨λ x=>P x∧P1 x,v,r,rfl,RepA.move t c (λ x p=>⟨h _ p.1,p⟩) λ i o p q=>k i o p.1 q,RepAs.move ts d (λ x p=>⟨h _ p.1,λ q=>p.2 q.2⟩) λ i o p q=>k i o p.1 q⟩
end
theorem RepAs.length {σ:AH}:∀ {ts:List (Tr α)} {P:Nat→Prop} {vs:List AV},RepAs hd σ P vs ts→vs.length=ts.length
 | [],zz,zy,x=>by simp only [RepAs] at x;subst x;rfl
 | t :: ts,_,_,x=>by
  simp only [RepAs] at x
  obtain⟨P1,v,r,rfl,c,d⟩:=x
  simp [d.length]
theorem RepA.keep {σ₁ σ₂:AH} {P F:Nat→Prop} {v:AV} {t:Tr α} (r:RepA hd σ₁ P v t) (k:Kp F σ₁ σ₂) (h:∀ x,P x→F x→False):RepA hd σ₂ P v t:=
 r.move _ (λ zz p=>p) λ i o p e=>k.2 i o (h i p) e
theorem RepAs.keep {σ₁ σ₂:AH} {P F:Nat→Prop} {v:List AV} {t:List (Tr α)} (r:RepAs hd σ₁ P v t) (k:Kp F σ₁ σ₂) (h:∀ x,P x→F x→False):RepAs hd σ₂ P v t:=
 r.move _ (λ zz p=>p) λ i o p e=>k.2 i o (h i p) e
end
theorem RepT.keepF {σ₁ σ₂:AH} {P F:Nat→Prop} {v:AV} {t:Th} (r:RepT σ₁ P v t) (k:Kp F σ₁ σ₂) (h:∀ x,P x→F x→False):RepT σ₂ P v t:=
 r.move _ (λ zz p=>p) λ i o p e=>k.2 i o (h i p) e
theorem RepTs.keepF {σ₁ σ₂:AH} {P F:Nat→Prop} {v:List AV} {t:List Th} (r:RepTs σ₁ P v t) (k:Kp F σ₁ σ₂) (h:∀ x,P x→F x→False):RepTs σ₂ P v t:=
 r.move _ (λ zz p=>p) λ i o p e=>k.2 i o (h i p) e
noncomputable def hdP (a:PP):List AV:=[pT a.1,pT a.2]
theorem W_isStr_w {Q:AV→AH→Prop} {E:AV→AH→Prop} {σ:AH} {s:List Nat}:W (callB tb0 .isinstance [.str s,.bi .str]) Q E σ↔Q (.bool true) σ:=by
 rw [W_inst]
 exact⟨λ ⟨b,h,q⟩=>by cases h;exact q,λ q=>⟨_,rfl,q⟩⟩
theorem W_isStr_o {Q:AV→AH→Prop} {E:AV→AH→Prop} {σ:AH} {i:Nat} {l:List AV} (h:σ[i]? = some (.list l)):W (callB tb0 .isinstance [.obj i,.bi .str]) Q E σ↔Q (.bool false) σ:=by
 rw [W_inst]
 have e:isOf tb0 σ (.obj i) (.bi .str)=some false:=by
  show (match σ[i]? with | some (.list zz)=>some false | _=>Option.none)=_
  refine rwg (h ..) rfl
 refine rwg (e ..) ?_
 exact⟨λ ⟨b,h,q⟩=>by cases h;exact q,λ q=>⟨_,rfl,q⟩⟩
noncomputable def St (st:Nat) (p:List Nat) (σ:AH):Prop:=σ[st]? = some (.dict [(nm "text",.str p),(nm "row",.int (ps p).1),(nm "column",.int (ps p).2)])
theorem nm_text:(⟨#[116,101,120,116]⟩:Str)=nm "text":=by rfl
theorem nm_row:(⟨#[114,111,119]⟩:Str)=nm "row":=by rfl
theorem nm_col:(⟨#[99,111,108,117,109,110]⟩:Str)=nm "column":=by rfl
theorem psF_one (q:Pos):∀ (w:List Nat),(∀ c∈w,c≠10)→psF q w=(q.1,q.2 + w.length)
 | [],zz=>rfl
 | c :: r,h=>by
  show psF (stp q c) r=_
  have:stp q c=(q.1,q.2 + 1):=by unfold stp;rw [if_neg (h c (by simp))]
  rw [this,psF_one _ r λ c hc=>h c (by simp [hc])]
  simp;lia
inductive It where
 | key (w:List Nat) | num (n:Int) | name | list (is:List It) | lit | core | way | els | prog
noncomputable def It.isName:It→Bool
 | .name=>true
 | _=>false
noncomputable def It.isCore:It→Bool
 | .name=>true
 | .core=>true
 | .lit=>true
 | _=>false
noncomputable def It.isNum:It→Bool
 | .num zz=>true
 | _=>false
noncomputable def It.isChr:It→Bool
 | .num n=>decide (0≤n∧n < 1114112)
 | _=>false
noncomputable def It.isLit:It→Bool
 | .lit=>true
 | _=>false
noncomputable def It.isWay:It→Bool
 | .way=>true
 | _=>false
noncomputable def It.isEls:It→Bool
 | .els=>true
 | _=>false
noncomputable def It.isKey:It→Bool
 | .key zz=>true
 | _=>false
noncomputable def It.isWord:It→Bool
 | .key zz=>true
 | .num zz=>true
 | .name=>true
 | _=>false
noncomputable def It.isList:It→Bool
 | .list zz=>true
 | _=>false
noncomputable def It.parts:It→List It
 | .list is=>is
 | _=>[]
noncomputable def at1 (is:List It) (k:Nat) (p:It→Bool):Bool:=match is[k]? with
 | some it=>p it
 | none=>false
noncomputable def It.isNames (it:It):Bool:=it.isList && it.parts.all It.isName
noncomputable def It.isBind (it:It):Bool:=it.isList && (decide (it.parts.length=2) && (at1 it.parts 0 It.isName && at1 it.parts 1 It.isCore))
noncomputable def It.isBinds (it:It):Bool:=it.isList && it.parts.all It.isBind
noncomputable def It.isWays (it:It):Bool:=it.isList && it.parts.all It.isWay
noncomputable def It.isFull (it:It):Bool:=decide (0 < it.parts.length)
noncomputable def kInt (is:List It):Bool:=decide (is.length=2) && at1 is 1 It.isNum
noncomputable def kChar (is:List It):Bool:=decide (is.length=2) && at1 is 1 It.isChr
noncomputable def kApp (is:List It):Bool:=decide (3≤is.length) && (is.drop 1).all It.isCore
noncomputable def kLam (is:List It):Bool:=decide (is.length=3) && (at1 is 1 It.isNames && (at1 is 1 It.isFull && at1 is 2 It.isCore))
noncomputable def kLet (is:List It):Bool:=decide (is.length=3) && (at1 is 1 It.isBinds && (at1 is 1 It.isFull && at1 is 2 It.isCore))
noncomputable def kCase (is:List It):Bool:=(decide (is.length=4) || (decide (is.length=5) && at1 is 4 It.isEls)) && (at1 is 3 It.isWays && ((decide (is.length=5) || at1 is 3 It.isFull) && (at1 is 1 It.isCore && at1 is 2 It.isName)))
noncomputable def kOf (is:List It):Bool:=decide (is.length=4) && (at1 is 1 It.isName && (at1 is 2 It.isNames && at1 is 3 It.isCore))
noncomputable def kIs (is:List It):Bool:=decide (is.length=3) && (at1 is 1 It.isLit && at1 is 2 It.isCore)
noncomputable def kElse (is:List It):Bool:=decide (is.length=2) && at1 is 1 It.isCore
noncomputable def kProg (is:List It):Bool:=(is.drop 2).all It.isBind && at1 is 1 It.isName
noncomputable def kCon (is:List It):Bool:=at1 is 1 It.isName && (is.drop 2).all It.isCore
noncomputable def gd (b:Bool) (x:It):Option It:=match b with
 | true=>some x
 | false=>none
noncomputable def kdK (w:List Nat) (is:List It):Option It:=
 if w=[105,110,116] then gd (kInt is) .lit
 else if w=[99,104,97,114] then gd (kChar is) .lit
 else if w=[97,112,112] then gd (kApp is) .core
 else if w=[108,97,109] then gd (kLam is) .core
 else if w=[108,101,116]∨w=[108,101,116,114,101,99] then gd (kLet is) .core
 else if w=[99,97,115,101] then gd (kCase is) .core
 else if w=[111,102] then gd (kOf is) .way
 else if w=[105,115] then gd (kIs is) .way
 else if w=[101,108,115,101] then gd (kElse is) .els
 else if w=[112,114,111,103,114,97,109] then gd (kProg is) .prog
 else gd (kCon is) .core
noncomputable def kd (is:List It):Option It:=match is with
 | .key w :: r=>kdK w (.key w :: r)
 | is=>some (.list is)
noncomputable def It.isForm:It→Bool
 | .lit=>true
 | .core=>true
 | .way=>true
 | .els=>true
 | .prog=>true
 | _=>false
theorem form_gd {b:Bool} {x it:It} (hx:x.isForm=true) (h:gd b x=some it):it.isForm=true:=by
 cases b with
 | false=>exact no_none h
 | true=>exact Option.some.inj h▸hx
theorem form_ite {p:Prop} [Decidable p] {x y:Option It} {it:It} (hx:x=some it→it.isForm=true) (hy:y=some it→it.isForm=true) (h:(if p then x else y)=some it):it.isForm=true:=by
 by_cases q:p
 ·exact hx ((if_pos q).symm.trans h)
 ·exact hy ((if_neg q).symm.trans h)
theorem kdK_form {w:List Nat} {is:List It} {it:It}:kdK w is=some it→it.isForm=true:=
 form_ite (form_gd rfl) (form_ite (form_gd rfl) (form_ite (form_gd rfl) (form_ite (form_gd rfl) (form_ite (form_gd rfl) (form_ite (form_gd rfl) (form_ite (form_gd rfl) (form_ite (form_gd rfl) (form_ite (form_gd rfl) (form_ite (form_gd rfl) (form_gd rfl))))))))))
theorem form_plain {it:It} (h:it.isForm=true):it.isList=false:=by
 cases it<;>first | rfl | exact no_ft h
theorem kd_form {is:List It} {it:It} (h:kd is=some it):it.isForm=true∨it.isList=true:=by
 cases is with
 | nil=>exact .inr (Option.some.inj h▸rfl)
 | cons x r=>
  cases x with
  | key v=>exact .inl (kdK_form (w:=v) h)
  | _=>exact .inr (Option.some.inj h▸rfl)
noncomputable def itW (s:List Nat):It:=if s∈keyWs then .key s else match lookW intWords s with
 | some n=>.num n
 | none=>.name
mutual
noncomputable def itO:Th→Option It
 | .w s=>some (itW s)
 | .l ts=>(itsO ts).bind kd
noncomputable def itsO:List Th→Option (List It)
 | []=>some []
 | t :: r=>(itO t).bind λ i=>(itsO r).map (i :: ·)
end
noncomputable def oWord (k:List Nat) (v p:AV):AO:=.inst 417 [(nm "kind",.str k),(nm "value",v),(nm "place",p)]
noncomputable def oOpen (q:Pos) (j:Nat):AO:=.inst 438 [(nm "place",pT q),(nm "items",.obj j)]
noncomputable def sKey:List Nat:=[107,101,121]
noncomputable def sNum:List Nat:=[110,117,109,98,101,114]
noncomputable def sName:List Nat:=[110,97,109,101]
noncomputable def coreCs:List Nat:=[141,183,221,282,322,362]
structure Opn (σ:AH) (i j:Nat) (q:Pos) (vs:List AV):Prop where
 h:σ[i]? = some (oOpen q j)
 l:σ[j]? = some (.list vs)
mutual
inductive RepI (R:Pos→Prop) (n:Nat) (σ:AH):AV→It→Prop
 | key {i:Nat} {w:List Nat} {p:AV} (a:n≤i) (h:σ[i]? = some (oWord sKey (.str w) p)):RepI R n σ (.obj i) (.key w)
 | num {i:Nat} {k:Int} {p:AV} (a:n≤i) (c:k=5∨k=97∨k < 0∨1114112≤k) (h:σ[i]? = some (oWord sNum (.int k) p)):RepI R n σ (.obj i) (.num k)
 | name {i:Nat} {w:List Nat} {p:AV} (a:n≤i) (h:σ[i]? = some (oWord sName (.str w) p)):RepI R n σ (.obj i) .name
 | list {i j:Nat} {q:Pos} {vs:List AV} {is:List It} (a:n≤i) (b:n≤j) (m:is.length≤9000) (r:R q) (o:Opn σ i j q vs) (x:RepIs R n σ vs is):RepI R n σ (.obj i) (.list is)
 | lit {i:Nat} {x y:AV} (a:n≤i) (h:σ[i]? = some (.inst 101 [(nm "kind",x),(nm "value",y)])):RepI R n σ (.obj i) .lit
 | core {i C:Nat} {fs:List (Str×AV)} (a:n≤i) (c:C∈coreCs) (h:σ[i]? = some (.inst C fs)):RepI R n σ (.obj i) .core
 | way {i:Nat} {fs:List (Str×AV)} (a:n≤i) (h:σ[i]? = some (.inst 242 fs)):RepI R n σ (.obj i) .way
 | els {i:Nat} {b:AV} (a:n≤i) (c:isNone b=false) (h:σ[i]? = some (.inst 480 [(nm "body",b)])):RepI R n σ (.obj i) .els
 | prog {i:Nat} {fs:List (Str×AV)} (a:n≤i) (h:σ[i]? = some (.inst 501 fs)):RepI R n σ (.obj i) .prog
inductive RepIs (R:Pos→Prop) (n:Nat) (σ:AH):List AV→List It→Prop
 | nil:RepIs R n σ [] []
 | cons {v:AV} {vs:List AV} {i:It} {is:List It} (x:RepI R n σ v i) (y:RepIs R n σ vs is):RepIs R n σ (v :: vs) (i :: is)
end
section
variable {R R':Pos→Prop} {n n':Nat} {σ σ':AH}
theorem RepIs.ind {P:List AV→List It→Prop} (h0:P [] []) (h1:∀ {v vs i is},RepI R n σ v i→RepIs R n σ vs is→P vs is→P (v :: vs) (i :: is)) {vs:List AV} {is:List It} (x:RepIs R n σ vs is):P vs is:=by
 refine @RepIs.rec R n σ (λ zz zz zz=>True) (λ vs is zz=>P vs is) ?_ ?_ ?_ ?_ ?_ ?_ ?_ ?_ ?_ h0 (λ x y zz ih=>h1 x y ih) vs is x
 all_goals (intros;trivial)
theorem RepI.move (hR:∀ q,R q→R' q) (hn:n'≤n) (hk:∀ x o,n≤x→σ[x]? = some o→σ'[x]? = some o) {v:AV} {i:It} (x:RepI R n σ v i):RepI R' n' σ' v i:=
 @RepI.rec R n σ (λ v i zz=>RepI R' n' σ' v i) (λ vs is zz=>RepIs R' n' σ' vs is) (λ a h=>.key (Nat.le_trans hn a) (hk _ _ a h)) (λ a c h=>.num (Nat.le_trans hn a) c (hk _ _ a h)) (λ a h=>.name (Nat.le_trans hn a) (hk _ _ a h))
  (λ a b m r o zz ih=>.list (Nat.le_trans hn a) (Nat.le_trans hn b) m (hR _ r) ⟨hk _ _ a o.h,hk _ _ b o.l⟩ ih) (λ a h=>.lit (Nat.le_trans hn a) (hk _ _ a h)) (λ a c h=>.core (Nat.le_trans hn a) c (hk _ _ a h))
  (λ a h=>.way (Nat.le_trans hn a) (hk _ _ a h)) (λ a c h=>.els (Nat.le_trans hn a) c (hk _ _ a h)) (λ a h=>.prog (Nat.le_trans hn a) (hk _ _ a h)) .nil (λ zz zz x y=>.cons x y) v i x
theorem RepIs.move (hR:∀ q,R q→R' q) (hn:n'≤n) (hk:∀ x o,n≤x→σ[x]? = some o→σ'[x]? = some o) {vs:List AV} {is:List It} (x:RepIs R n σ vs is):RepIs R' n' σ' vs is:=
 x.ind (P:=λ vs is=>RepIs R' n' σ' vs is) .nil λ x zz ih=>.cons (x.move hR hn hk) ih
theorem RepIs.length {vs:List AV} {is:List It} (x:RepIs R n σ vs is):vs.length=is.length:=x.ind (P:=λ vs is=>vs.length=is.length) rfl λ zz zz e=>congrArg Nat.succ e
theorem RepIs.drop {vs:List AV} {is:List It} (k:Nat) (x:RepIs R n σ vs is):RepIs R n σ (vs.drop k) (is.drop k):=
 x.ind (P:=λ vs is=>∀ k,RepIs R n σ (vs.drop k) (is.drop k)) (λ k=>by cases k<;>exact .nil) (λ x y ih k=>by
  cases k with
  | zero=>exact .cons x y
  | succ k=>exact ih k) k
theorem RepIs.at {vs:List AV} {is:List It} {k:Nat} {i:It} (x:RepIs R n σ vs is) (e:is[k]? = some i):∃ v,vs[k]? = some v∧RepI R n σ v i:=
 x.ind (P:=λ vs is=>∀ {k:Nat},is[k]? = some i→∃ v,vs[k]? = some v∧RepI R n σ v i) (λ e=>nomatch e) (λ {v _ _ _} x _ ih {k} e=>by
  cases k with
  | zero=>cases e;exact⟨v,rfl,x⟩
  | succ k=>exact ih (k:=k) e) e
theorem RepIs.app2 {us:List AV} {js:List It} {vs:List AV} {is:List It} (x:RepIs R n σ vs is) (z:RepIs R n σ us js):RepIs R n σ (vs++us) (is++js):=
 x.ind (P:=λ vs is=>RepIs R n σ (vs++us) (is++js)) z λ x zz ih=>.cons x ih
end
theorem keep_no {n:Nat} {σ σ':AH} (k:Kp NoP σ σ'):∀ x o,n≤x→σ[x]? = some o→σ'[x]? = some o:=λ x o zz e=>k.2 x o (λ h=>h) e
theorem RepI.no {R:Pos→Prop} {n:Nat} {σ σ':AH} {v:AV} {i:It} (x:RepI R n σ v i) (k:Kp NoP σ σ'):RepI R n σ' v i:=x.move (λ zz r=>r) (Nat.le_refl _) (keep_no k)
theorem RepIs.no {R:Pos→Prop} {n:Nat} {σ σ':AH} {v:List AV} {i:List It} (x:RepIs R n σ v i) (k:Kp NoP σ σ'):RepIs R n σ' v i:=x.move (λ zz r=>r) (Nat.le_refl _) (keep_no k)
theorem Opn.no {σ σ':AH} {i j:Nat} {q:Pos} {vs:List AV} (o:Opn σ i j q vs) (k:Kp NoP σ σ'):Opn σ' i j q vs:=⟨k.2 _ _ (λ h=>h) o.h,k.2 _ _ (λ h=>h) o.l⟩
theorem inst_of {σ:AH} {i C D:Nat} {fs:List (Str×AV)} (h:σ[i]? = some (.inst D fs)) (hc:tb0.inst C=true) (hd:tb0.inst D=true):isOf tb0 σ (.obj i) (.val C)=some (decide (D=C)):=by
 show (if tb0.inst C=true then (match σ[i]? with | some (.inst D zz)=>if tb0.inst D=true then some (decide (D=C)) else Option.none | _=>Option.none) else Option.none)=_
 refine rwg (if_pos hc ..) ?_
 refine rwg (h ..) ?_
 exact if_pos hd
noncomputable def It.cls:It→List Nat
 | .key zz=>[417]
 | .num zz=>[417]
 | .name=>[417]
 | .list zz=>[438]
 | .lit=>[101]
 | .core=>coreCs
 | .way=>[242]
 | .els=>[480]
 | .prog=>[501]
theorem RepI.cls {R:Pos→Prop} {n:Nat} {σ:AH} {v:AV} {it:It} (x:RepI R n σ v it):∃ i C fs,v = .obj i∧σ[i]? = some (.inst C fs)∧C∈it.cls:=by
 cases x with
 | key a h=>exact⟨_,_,_,rfl,h,.head _⟩
 | num a c h=>exact⟨_,_,_,rfl,h,.head _⟩
 | name a h=>exact⟨_,_,_,rfl,h,.head _⟩
 | list a b m r o x=>exact⟨_,_,_,rfl,o.h,.head _⟩
 | lit a h=>exact⟨_,_,_,rfl,h,.head _⟩
 | core a c h=>exact⟨_,_,_,rfl,h,c⟩
 | way a h=>exact⟨_,_,_,rfl,h,.head _⟩
 | els a c h=>exact⟨_,_,_,rfl,h,.head _⟩
 | prog a h=>exact⟨_,_,_,rfl,h,.head _⟩
theorem cls_inst:∀ it:It,it.cls.all tb0.inst=true:=λ it=>by cases it<;>rfl
theorem RepI.isOf {R:Pos→Prop} {n:Nat} {σ:AH} {v:AV} {it:It} (x:RepI R n σ v it) {C:Nat} (hc:tb0.inst C=true) {b:Bool} (hb:it.cls.all (λ D=>decide (D=C) == b)=true):isOf tb0 σ v (.val C)=some b:=by
 obtain⟨i,D,fs,rfl,h,m⟩:=x.cls
 rw [inst_of h hc (List.all_eq_true.mp (cls_inst it) D m)]
 exact congrArg some (beq_iff_eq.mp (List.all_eq_true.mp hb D m))
theorem RepI.isList {R:Pos→Prop} {n:Nat} {σ:AH} {v:AV} {it:It} (x:RepI R n σ v it):Mine.isOf tb0 σ v (.val 438)=some it.isList:=x.isOf rfl (by cases it<;>rfl)
theorem RepI.isWord {R:Pos→Prop} {n:Nat} {σ:AH} {v:AV} {it:It} (x:RepI R n σ v it):Mine.isOf tb0 σ v (.val 417)=some it.isWord:=x.isOf rfl (by cases it<;>rfl)
theorem RepI.isLit {R:Pos→Prop} {n:Nat} {σ:AH} {v:AV} {it:It} (x:RepI R n σ v it):Mine.isOf tb0 σ v (.val 101)=some it.isLit:=x.isOf rfl (by cases it<;>rfl)
theorem RepI.isWay {R:Pos→Prop} {n:Nat} {σ:AH} {v:AV} {it:It} (x:RepI R n σ v it):Mine.isOf tb0 σ v (.val 242)=some it.isWay:=x.isOf rfl (by cases it<;>rfl)
theorem RepI.isEls {R:Pos→Prop} {n:Nat} {σ:AH} {v:AV} {it:It} (x:RepI R n σ v it):Mine.isOf tb0 σ v (.val 480)=some it.isEls:=x.isOf rfl (by cases it<;>rfl)
noncomputable def It.isExp:It→Bool
 | .core=>true
 | .lit=>true
 | _=>false
theorem any_inst {σ:AH} {i D:Nat} {fs:List (Str×AV)} (h:σ[i]? = some (.inst D fs)) (hd:tb0.inst D=true):∀ Cs:List Nat,Cs.all tb0.inst=true→instAny tb0 σ (.obj i) (Cs.map .val)=some (Cs.any λ C=>decide (D=C))
 | [],zz=>rfl
 | C :: r,hc=>by
  obtain⟨h1,h2⟩:=Bool.and_eq_true_iff.mp hc
  have e:instOne tb0 σ (.obj i) (.val C)=some (decide (D=C)):=inst_of h h1 hd
  show (match instOne tb0 σ (.obj i) (.val C) with | some true=>some true | some false=>instAny tb0 σ (.obj i) (r.map .val) | Option.none=>Option.none)=some (decide (D=C) || r.any λ C=>decide (D=C))
  refine rwg (e ..) ?_
  cases decide (D=C)
  ·exact any_inst h hd r h2
  ·rfl
theorem RepI.isExp {R:Pos→Prop} {n:Nat} {σ:AH} {v:AV} {it:It} (x:RepI R n σ v it):Mine.isOf tb0 σ v (.tup [(.val 101),(.val 141),(.val 183),(.val 221),(.val 282),(.val 322),(.val 362)])=some it.isExp:=by
 refine ex33 (x.cls) λ i D fs rr3 h m=>?_
 clear x n R
 subst rr3
 refine (any_inst h (List.all_eq_true.mp (cls_inst it) D m) [101,141,183,221,282,322,362] rfl).trans (congrArg some ?_)
 have:it.cls.all (λ D=>([101,141,183,221,282,322,362].any λ C=>decide (D=C)) == it.isExp)=true:=by cases it<;>rfl
 exact beq_iff_eq.mp (List.all_eq_true.mp this D m)
section
variable {α β:Type} {σ σ₁ σ₂:AH}
theorem run_inst {v c:AV} {b:Bool} (h:isOf tb0 σ v c=some b):callB tb0 .isinstance [v,c] σ=some (.ok (.bool b),σ):=by
 have e:callB tb0 .isinstance [v,c] σ=match isOf tb0 σ v c with
  | some b=>some (.ok (.bool b),σ)
  | none=>none:=by
  show instA tb0 v c σ=_
  unfold instA isOf
  clear h b
  cases c<;>rfl
 refine rwg (e ..) ?_
 refine rwg (h ..) rfl
end
inductive Rs {α:Type} (R:Pos→Prop) (σ₀:AH) (m:PM α) (σ:AH) (ok:Bool) (P:α→AH→Prop):Prop
 | good (h:ok=true) (v:α) (σ':AH) (e:m σ=some (.ok v,σ')) (k:Kp NoP σ₀ σ') (p:P v σ')
 | bad (h:ok=false) (q:Pos) (σ':AH) (e:m σ=some (.error (pT q),σ')) (r:R q) (k:Kp NoP σ₀ σ')
section
variable {α β:Type} {R:Pos→Prop} {σ₀ σ σ₁:AH} {ok ok1 ok2:Bool} {P:β→AH→Prop} {P1:α→AH→Prop}
theorem Rs.eq {m m':PM β} (h:m σ=m' σ₁) (x:Rs R σ₀ m' σ₁ ok P):Rs R σ₀ m σ ok P:=by
 cases x with
 | good a v σ' e k p=>exact .good a v σ' (h.trans e) k p
 | bad a q σ' e r k=>exact .bad a q σ' (h.trans e) r k
theorem Rs.run {m:PM α} {f:α→PM β} {v:α} (h:m σ=some (.ok v,σ₁)) (x:Rs R σ₀ (f v) σ₁ ok P):Rs R σ₀ (m>>=f) σ ok P:=x.eq (run_bind h rfl)
theorem Rs.bind {m:PM α} {f:α→PM β} (x:Rs R σ₀ m σ ok1 P1) (y:ok1=true→∀ v σ₁,Kp NoP σ₀ σ₁→P1 v σ₁→Rs R σ₀ (f v) σ₁ ok2 P):Rs R σ₀ (m>>=f) σ (ok1 && ok2) P:=by
 cases x with
 | good a v σ' e k p=>subst a;exact (y rfl v σ' k p).run e
 | bad a q σ' e r k=>subst a;exact .bad rfl q σ' (run_err e) r k
theorem Rs.seq {m:PM AV} {r:List (PM AV)} {f:List AV→PM β} {P1:AV→AH→Prop} (x:Rs R σ₀ m σ ok1 P1) (y:ok1=true→∀ v σ₁,Kp NoP σ₀ σ₁→P1 v σ₁→Rs R σ₀ (seqA r>>=λ vs=>f (v :: vs)) σ₁ ok2 P):Rs R σ₀ (seqA (m :: r)>>=f) σ (ok1 && ok2) P:=by
 have e:(seqA (m :: r)>>=f)=(m>>=λ v=>seqA r>>=λ vs=>f (v :: vs)):=by
  conv=>lhs;unfold seqA
  simp only [PM.bind_assoc,PM.pure_bind]
 refine rwg (e ..) ?_
 exact x.bind y
theorem Rs.ret {v:β} (k:Kp NoP σ₀ σ) (p:P v σ):Rs R σ₀ (pure v) σ true P:=.good rfl v σ rfl k p
theorem Rs.base {m:PM β} (k:Kp NoP σ₀ σ) (x:Rs R σ m σ ok P):Rs R σ₀ m σ ok P:=by
 cases x with
 | good a v σ' e k' p=>exact .good a v σ' e (k.trans k') p
 | bad a q σ' e r k'=>exact .bad a q σ' e r (k.trans k')
theorem Rs.post {m:PM β} {P':β→AH→Prop} (x:Rs R σ₀ m σ ok P) (h:ok=true→∀ v σ',Kp NoP σ₀ σ'→P v σ'→P' v σ'):Rs R σ₀ m σ ok P':=by
 cases x with
 | good a v σ' e k p=>exact .good a v σ' e k (h a v σ' k p)
 | bad a q σ' e r k=>exact .bad a q σ' e r k
theorem Rs.cast {m:PM β} (x:Rs R σ₀ m σ ok P) (h:ok=ok1):Rs R σ₀ m σ ok1 P:=h▸x
theorem Rs.tail {m:PM β} (x:Rs R σ₀ m σ (ok && true) P):Rs R σ₀ m σ ok P:=x.cast (Bool.and_true ok)
end
noncomputable def Any {α:Type}:α→AH→Prop:=λ zz zz=>True
theorem Opn.items {σ:AH} {i j:Nat} {q:Pos} {vs:List AV} (O:Opn σ i j q vs):attrA tb0 (.obj i) (nm "items") σ=some (.ok (.obj j),σ):=run_attr O.h (by kernel_rfl) (by kernel_rfl)
theorem Opn.place {σ:AH} {i j:Nat} {q:Pos} {vs:List AV} (O:Opn σ i j q vs):attrA tb0 (.obj i) (nm "place") σ=some (.ok (pT q),σ):=run_attr O.h (by kernel_rfl) (by kernel_rfl)
theorem Opn.len {σ:AH} {i j:Nat} {q:Pos} {vs:List AV} (O:Opn σ i j q vs):(seqA [attrA tb0 (.obj i) (nm "items")]>>=λ vs=>callB tb0 .len vs) σ=some (.ok (.int vs.length),σ):=run_seq O.items (run_len (T:=tb0) O.l)
theorem Opn.part {σ:AH} {i j k:Nat} {q:Pos} {vs:List AV} {v:AV} {z:Int} (O:Opn σ i j q vs) (hk:vs[k]? = some v) (hz:z=(k:Nat)):(attrA tb0 (.obj i) (nm "items")>>=λ x=>subA x (.int z)) σ=some (.ok v,σ):=run_bind O.items (run_sub O.l hk hz)
theorem run_refuse {σ:AH} {i j fuel d:Nat} {q:Pos} {vs:List AV} {s:List Nat} (O:Opn σ i j q vs):callF tb0 fuel (d + 1) 573 [.obj i,.str s] σ=some (.error (pT q),σ):=by
 rw [den_573]
 exact run_seq (σ₁:=σ) (v:=.str s) rfl (run_seq O.place rfl)
theorem Rs.guard {α:Type} {R:Pos→Prop} {σ₀ σ σ₁:AH} {ok1 ok2:Bool} {P:α→AH→Prop} {t:PM Bool} {f:Bool→PM α} {i j fuel d:Nat} {q:Pos} {vs:List AV} (O:Opn σ₁ i j q vs) (r:R q) (k:Kp NoP σ₀ σ₁) (h:t σ=some (.ok (!ok1),σ₁))
  (hf:∃ (s:List Nat) (g:AV→PM α),f true=(callF tb0 fuel (d + 1) 573 [.obj i,.str s]>>=g)) (y:ok1=true→Rs R σ₀ (f false) σ₁ ok2 P):Rs R σ₀ (t>>=f) σ (ok1 && ok2) P:=by
 cases ok1 with
 | true=>exact (y rfl).run h
 | false=>
  refine ex21 (hf) λ s g e=>?_
  refine .bad rfl q σ₁ (run_bind h ?_) r k
  show f true σ₁=_
  refine rwg (e ..) ?_
  exact run_err (run_refuse O)
theorem set_push (σ:AH) (o o':AO):(σ++[o]).set σ.length o'=σ++[o']:=by
 rw [List.set_append_right _ _ (Nat.le_refl _),Nat.sub_self];rfl
theorem run_setP {σ:AH} {C:Nat} {fs:List (Str×AV)} {x:Str} {v:AV} (hf:tb0.fld C x=true) (hl:Nat.ble fs.length 20=true):setAttrA tb0 (.obj σ.length) x v (σ++[.inst C fs])=some (.ok (),σ++[.inst C (kvSet fs x v)]):=by
 rw [run_setAttr (get_push _ _) hf hl,set_push]
theorem run_new {σ σ':AH} {fuel d C f:Nat} {args:List AV} (h1:tb0.fn C=none) (h2:tb0.ini C=some f) (h:callF tb0 fuel (d + 1) f (.obj σ.length :: args) (σ++[.inst C []])=some (.ok .none,σ')):callF tb0 fuel (d + 2) C args σ=some (.ok (.obj σ.length),σ'):=by
 rw [callF_step]
 unfold stepK
 refine rwg (h1 ..) ?_
 dsimp only
 refine rwg (h2 ..) ?_
 exact run_bind (σ₁:=σ++[.inst C []]) (v:=.obj σ.length) rfl (run_bind h rfl)
section
variable {σ:AH} {fuel d:Nat}
theorem new_var {a:AV}:callF tb0 fuel (d + 2) 59 [a] σ=some (.ok (.obj σ.length),σ++[.inst 59 [(nm "name",a)]]):=
 run_new rfl rfl ((congrFun (den_35 ..) _).trans (run_bind (run_setP (by kernel_rfl) (by kernel_rfl)) rfl))
theorem new_lit {a b:AV}:callF tb0 fuel (d + 2) 101 [a,b] σ=some (.ok (.obj σ.length),σ++[.inst 101 [(nm "kind",a),(nm "value",b)]]):=
 run_new rfl rfl ((congrFun (den_77 ..) _).trans (run_bind (run_setP (by kernel_rfl) (by kernel_rfl)) (run_bind (run_setP (by kernel_rfl) (by kernel_rfl)) (by kernel_rfl))))
theorem new_app {a b:AV}:callF tb0 fuel (d + 2) 141 [a,b] σ=some (.ok (.obj σ.length),σ++[.inst 141 [(nm "fun",a),(nm "args",b)]]):=
 run_new rfl rfl ((congrFun (den_119 ..) _).trans (run_bind (run_setP (by kernel_rfl) (by kernel_rfl)) (run_bind (run_setP (by kernel_rfl) (by kernel_rfl)) (by kernel_rfl))))
theorem new_lam {a b:AV}:callF tb0 fuel (d + 2) 183 [a,b] σ=some (.ok (.obj σ.length),σ++[.inst 183 [(nm "params",a),(nm "body",b)]]):=
 run_new rfl rfl ((congrFun (den_159 ..) _).trans (run_bind (run_setP (by kernel_rfl) (by kernel_rfl)) (run_bind (run_setP (by kernel_rfl) (by kernel_rfl)) (by kernel_rfl))))
theorem new_con {a b:AV}:callF tb0 fuel (d + 2) 322 [a,b] σ=some (.ok (.obj σ.length),σ++[.inst 322 [(nm "name",a),(nm "args",b)]]):=
 run_new rfl rfl ((congrFun (den_300 ..) _).trans (run_bind (run_setP (by kernel_rfl) (by kernel_rfl)) (run_bind (run_setP (by kernel_rfl) (by kernel_rfl)) (by kernel_rfl))))
theorem new_prim {a b:AV}:callF tb0 fuel (d + 2) 362 [a,b] σ=some (.ok (.obj σ.length),σ++[.inst 362 [(nm "op",a),(nm "args",b)]]):=
 run_new rfl rfl ((congrFun (den_340 ..) _).trans (run_bind (run_setP (by kernel_rfl) (by kernel_rfl)) (run_bind (run_setP (by kernel_rfl) (by kernel_rfl)) (by kernel_rfl))))
theorem new_bind {a b:AV}:callF tb0 fuel (d + 2) 459 [a,b] σ=some (.ok (.obj σ.length),σ++[.inst 459 [(nm "name",a),(nm "body",b)]]):=
 run_new rfl rfl ((congrFun (den_456 ..) _).trans (run_bind (run_setP (by kernel_rfl) (by kernel_rfl)) (run_bind (run_setP (by kernel_rfl) (by kernel_rfl)) (by kernel_rfl))))
theorem new_prog {a b:AV}:callF tb0 fuel (d + 2) 501 [a,b] σ=some (.ok (.obj σ.length),σ++[.inst 501 [(nm "main",a),(nm "binds",b)]]):=
 run_new rfl rfl ((congrFun (den_498 ..) _).trans (run_bind (run_setP (by kernel_rfl) (by kernel_rfl)) (run_bind (run_setP (by kernel_rfl) (by kernel_rfl)) (by kernel_rfl))))
theorem new_else {a:AV}:callF tb0 fuel (d + 2) 480 [a] σ=some (.ok (.obj σ.length),σ++[.inst 480 [(nm "body",a)]]):=
 run_new rfl rfl ((congrFun (den_477 ..) _).trans (run_bind (run_setP (by kernel_rfl) (by kernel_rfl)) rfl))
theorem new_let {a b c:AV}:callF tb0 fuel (d + 2) 221 [a,b,c] σ=some (.ok (.obj σ.length),σ++[.inst 221 [(nm "binds",a),(nm "body",b),(nm "is_rec",c)]]):=
 run_new rfl rfl ((congrFun (den_201 ..) _).trans (run_bind (run_setP (by kernel_rfl) (by kernel_rfl)) (run_bind (run_setP (by kernel_rfl) (by kernel_rfl)) (run_bind (run_setP (by kernel_rfl) (by kernel_rfl)) (by kernel_rfl)))))
theorem new_alt {a b c:AV}:callF tb0 fuel (d + 2) 242 [a,b,c] σ=some (.ok (.obj σ.length),σ++[.inst 242 [(nm "key",a),(nm "names",b),(nm "body",c)]]):=
 run_new rfl rfl ((congrFun (den_239 ..) _).trans (run_bind (run_setP (by kernel_rfl) (by kernel_rfl)) (run_bind (run_setP (by kernel_rfl) (by kernel_rfl)) (run_bind (run_setP (by kernel_rfl) (by kernel_rfl)) (by kernel_rfl)))))
theorem new_word {k:List Nat} {b c:AV}:callF tb0 fuel (d + 2) 417 [.str k,b,c] σ=some (.ok (.obj σ.length),σ++[oWord k b c]):=
 run_new rfl rfl ((congrFun (den_414 ..) _).trans (run_bind (run_setP (by kernel_rfl) (by kernel_rfl)) (run_bind (run_setP (by kernel_rfl) (by kernel_rfl)) (run_bind (run_setP (by kernel_rfl) (by kernel_rfl)) (by kernel_rfl)))))
theorem new_case {a b c e:AV}:callF tb0 fuel (d + 2) 282 [a,b,c,e] σ=some (.ok (.obj σ.length),σ++[.inst 282 [(nm "value",a),(nm "name",b),(nm "alts",c),(nm "other",e)]]):=
 run_new rfl rfl ((congrFun (den_260 ..) _).trans (run_bind (run_setP (by kernel_rfl) (by kernel_rfl)) (run_bind (run_setP (by kernel_rfl) (by kernel_rfl)) (run_bind (run_setP (by kernel_rfl) (by kernel_rfl)) (run_bind (run_setP (by kernel_rfl) (by kernel_rfl)) (by kernel_rfl))))))
theorem new_scan {a:AV}:callF tb0 fuel (d + 2) 562 [a] σ=some (.ok (.obj σ.length),σ++[.inst 562 [(nm "text",a),(nm "at",.int 0),(nm "line",.int 1),(nm "begun",.int 0)]]):=
 run_new rfl rfl ((congrFun (den_524 ..) _).trans (run_bind (run_setP (by kernel_rfl) (by kernel_rfl)) (run_bind (run_setP (by kernel_rfl) (by kernel_rfl)) (run_bind (run_setP (by kernel_rfl) (by kernel_rfl)) (run_bind (run_setP (by kernel_rfl) (by kernel_rfl)) (by kernel_rfl))))))
theorem new_open {q:Pos}:callF tb0 fuel (d + 2) 438 [pT q] σ=some (.ok (.obj σ.length),(σ++[oOpen q (σ.length + 1)])++[.list []]):=by
 refine run_new rfl rfl ((congrFun (den_435 ..) _).trans (run_bind (run_setP (by kernel_rfl) (by kernel_rfl)) (run_bind (run_newL (by decide)) ?_)))
 refine run_bind (run_setAttr (fs:=[(nm "place",pT q)]) (C:=438) (getApp (get_push _ _)) (by kernel_rfl) (by kernel_rfl)) ?_
 show some (Except.ok AV.none,_)=_
 rw [List.set_append_left _ _ (by simp),set_push,List.length_append]
 rfl
end
section
inductive Ls (R:Pos→Prop) (n:Nat) (σ:AH) (i:Nat) (is:List It):Prop
 | mk {j:Nat} {q:Pos} {vs:List AV} (m:is.length≤9000) (r:R q) (O:Opn σ i j q vs) (X:RepIs R n σ vs is)
variable {R:Pos→Prop} {n:Nat} {σ σ':AH} {i:Nat} {is:List It} {fuel d:Nat}
theorem Ls.no (L:Ls R n σ i is) (k:Kp NoP σ σ'):Ls R n σ' i is:=by
 obtain @⟨j,q,vs,m,r,O,X⟩:=L
 exact⟨m,r,O.no k,X.no k⟩
theorem RepI.ls {v:AV} {it:It} (x:RepI R n σ v it) (h:it.isList=true):∃ i,v = .obj i∧Ls R n σ i it.parts:=by
 cases x with
 | list a b m r o x=>exact⟨_,rfl,m,r,o,x⟩
 | _=>cases h
noncomputable def wordIs (s:List Nat):It→Bool
 | .key zz=>decide (sKey=s)
 | .num zz=>decide (sNum=s)
 | .name=>decide (sName=s)
 | _=>false
theorem wordIs_name (it:It):wordIs sName it=it.isName:=by cases it<;>rfl
theorem wordIs_key (it:It):wordIs sKey it=it.isKey:=by cases it<;>rfl
theorem wordIs_num (it:It):wordIs sNum it=it.isNum:=by cases it<;>rfl
theorem run_boolA {m n:PM AV} {b:Bool} {r:Option (Except AV AV×AH)} (h:m σ=some (.ok (.bool b),σ)) (h1:b=false→r=some (.ok (.bool false),σ)) (h2:b=true→n σ=r):boolA .And [m,n] σ=r:=by
 refine run_bind h (run_bind (σ₁:=σ) (v:=b) rfl ?_)
 clear h m
 cases b
 ·exact (h1 rfl).symm
 ·exact h2 rfl
theorem run_isw {v:AV} {it:It} (x:RepI R n σ v it) (s:List Nat):callF tb0 fuel (d + 1) 580 [v,.str s] σ=some (.ok (.bool (wordIs s it)),σ):=by
 refine rwg (den_580 ..) ?_
 have attr:∀ {i:Nat} {k:List Nat} {u p:AV},σ[i]? = some (oWord k u p)→attrA tb0 (.obj i) (nm "kind") σ=some (.ok (.str k),σ):=λ h=>run_attr h (by kernel_rfl) (by kernel_rfl)
 refine run_boolA (run_inst x.isWord) (λ e=>?_) λ e=>?_
 ·cases x<;>first | rfl | cases e
 ·cases x with
  | key a h=>exact run_bind (attr h) rfl
  | num a c h=>exact run_bind (attr h) rfl
  | name a h=>exact run_bind (attr h) rfl
  | _=>cases e
theorem word_val {k:List Nat} {u p:AV} {i:Nat} (h:σ[i]? = some (oWord k u p)):attrA tb0 (.obj i) (nm "value") σ=some (.ok u,σ):=run_attr h (by kernel_rfl) (by kernel_rfl)
theorem run_chain2 {a v w:AV} {op1 op2:CmpOp} {m1 m2:PM AV} {x y:Bool} (h1:m1 σ=some (.ok v,σ)) (c1:cmpV σ op1 a v=some x) (h2:m2 σ=some (.ok w,σ)) (c2:cmpV σ op2 v w=some y):chainA a [op1,op2] [m1,m2] σ=some (.ok (x && y),σ):=by
 refine run_bind h1 (run_bind (run_cmp c1) ?_)
 clear c1 h1 m1 op1 a
 cases x
 ·rfl
 ·exact run_bind h2 (run_cmp c2)
theorem rs_many (L:Ls R n σ i is) (a b:Nat) {y z:Int} (ha:y=a) (hb:z=b):Rs R σ (callF tb0 fuel (d + 2) 625 [.obj i,.int y,.int z]) σ (decide (a≤is.length) && decide (is.length≤b)) Any:=by
 obtain @⟨j,q,vs,m,r,O,X⟩:=L
 subst ha hb
 refine rwg (den_625 ..) ?_
 refine Rs.tail (Rs.guard O r (.refl _) (run_not ((run_chain2 O.len rfl rfl rfl).trans ?_)) ⟨_,_,rfl⟩ λ zz=>Rs.ret (P:=Any) (.refl _) trivial)
 refine rwg (X.length ..) ?_
 refine rwg (show decide ((a:Int)≤(is.length:Int))=decide (a≤is.length) from decide_eq_decide.mpr Int.ofNat_le ..) ?_
 refine rwg (show decide ((is.length:Int)≤(b:Int))=decide (is.length≤b) from decide_eq_decide.mpr Int.ofNat_le ..) rfl
theorem at_none {p:It→Bool} {k:Nat} (h:is[k]? = none):at1 is k p=false:=by unfold at1;rw [h]
theorem at_some {p:It→Bool} {k:Nat} {it:It} (h:is[k]? = some it):at1 is k p=p it:=by unfold at1;rw [h]
theorem ge_len {k m:Nat} (h:m≤k):cmpV σ .GtE (.int k) (.int m)=some true:=congrArg some (decide_eq_true (Int.ofNat_le.mpr h))
theorem ge_not {k m:Nat} (h:k < m):cmpV σ .GtE (.int k) (.int m)=some false:=congrArg some (decide_eq_false (Int.not_le.mpr (Int.ofNat_lt.mpr h)))
theorem run_look {j k:Nat} {q:Pos} {vs:List AV} {m:PM Bool} {p:It→Bool} (O:Opn σ i j q vs) (X:RepIs R n σ vs is) (h:∀ v it,vs[k]? = some v→is[k]? = some it→RepI R n σ v it→m σ=some (.ok (p it),σ)):
  boolT .Or [(((seqA [attrA tb0 (.obj i) (nm "items")]>>=λ vs1=>(callB tb0 .len vs1)))>>=λ v2=>(cmpA .GtE (.int k) v2)),(m>>=λ b=>pure !b)] σ=some (.ok (!at1 is k p),σ):=by
 cases e:is[k]? with
 | none=>
  refine rwg (at_none e ..) ?_
  exact (run_or (b:=false) (run_bind O.len (run_cmp (ge_len (by rw [X.length];exact List.getElem?_eq_none_iff.mp e)))) λ z=>nomatch z)
 | some it=>
  refine ex12 (X.at e) λ v hv x=>?_
  refine rwg (at_some e ..) ?_
  exact run_or (run_bind O.len (run_cmp (ge_not (List.getElem?_eq_some_iff.mp hv).1))) λ zz=>run_or1 (run_not (h v it hv e x))
theorem at_true {p:It→Bool} {k:Nat} (h:at1 is k p=true):∃ it,is[k]? = some it∧p it=true:=by
 unfold at1 at h
 cases e:is[k]? with
 | none=>rw [e] at h;cases h
 | some it=>rw [e] at h;exact⟨it,rfl,h⟩
theorem rs_name (L:Ls R n σ i is) (k:Nat) {z:Int} (hz:z=k):Rs R σ (callF tb0 fuel (d + 2) 587 [.obj i,.int z]) σ (at1 is k It.isName) Any:=by
 obtain @⟨j,q,vs,m,r,O,X⟩:=L
 subst hz
 refine rwg (den_587 ..) ?_
 refine Rs.tail (Rs.guard O r (.refl _) (run_look O X λ v it hv zz x=>run_tt (run_seq (O.part hv rfl) (run_seq (σ₁:=σ) (v:=.str sName) rfl (run_nil ((run_isw x sName).trans (by rw [wordIs_name])))))) ⟨_,_,rfl⟩ λ ok=>?_)
 refine ex12 (at_true ok) λ it e h=>?_
 refine ex12 (X.at e) λ v hv x=>?_
 refine Rs.run (O.part hv rfl) ?_
 clear ok hv e X O r m vs q j k
 cases x with
 | name a h2=>exact .good rfl _ σ (word_val h2) (.refl _) trivial
 | _=>cases h
theorem core_of (it:It):it.isCore=(it.isName || it.isExp):=by cases it<;>rfl
theorem rs_core (L:Ls R n σ i is) (k:Nat) {z:Int} (hz:z=k):Rs R σ (callF tb0 fuel (d + 3) 594 [.obj i,.int z]) σ (at1 is k It.isCore) (λ v zz=>isNone v=false):=by
 obtain @⟨j,q,vs,m,r,O,X⟩:=L
 subst hz
 refine rwg (den_594 ..) ?_
 cases e:is[k]? with
 | none=>
  rw [at_none e]
  exact .bad rfl q σ (run_bind (run_bind O.len (run_cmp (r:=false) (congrArg some (decide_eq_false (by have:=List.getElem?_eq_none_iff.mp e;rw [X.length];lia))))) (run_err (run_refuse O))) r (.refl _)
 | some it=>
  obtain⟨v,hv,x⟩:=X.at e
  rw [at_some e,core_of]
  refine Rs.run (run_bind O.len (run_cmp (r:=true) (congrArg some (decide_eq_true (Int.ofNat_lt.mpr (List.getElem?_eq_some_iff.mp hv).1))))) (Rs.run (O.part hv rfl) (Rs.run (run_tt (run_isw x sName)) ?_))
  rw [wordIs_name]
  clear hv X m
  cases hn:it.isName with
  | true=>
   cases x with
   | name a h2=>exact .good rfl _ _ (run_seq (word_val h2) (run_nil new_var)) (Kp.app _ _) rfl
   | _=>cases hn
  | false=>
   refine Rs.run (run_tt (run_inst x.isExp)) ?_
   cases he:it.isExp with
   | true=>
    refine ex32 (x.cls) λ i C fs rr3 zz=>?_
    subst rr3
    exact Rs.ret (.refl _) rfl
   | false=>exact .bad rfl q σ (run_err (run_refuse O)) r (.refl _)
end
section
variable {R:Pos→Prop} {n:Nat} {σ σ' σ₀:AH} {i:Nat} {is:List It} {fuel d:Nat}
theorem goN_end {body:AV→PM (List AV)} {src:Src} {n j:Nat} (h:nextA σ src j=some none):goN body src (n + 1) j σ=some (.ok [],σ):=by unfold goN;rw [h]
theorem goN_step {body:AV→PM (List AV)} {src:Src} {n j:Nat} {v:AV} (h:nextA σ src j=some (some v)) (hj:j < maxLen):goN body src (n + 1) j σ=(body v>>=λ x=>goN body src n (j + 1)>>=λ y=>pure (x++y)) σ:=by
 conv=>lhs;unfold goN
 refine rwg (h ..) ?_
 exact if_pos hj
theorem forN_end {body:AV→Lc→(Lc→PM AV)→PM AV} {k:Lc→PM AV} {src:Src} {n j:Nat} {lc:Lc} (h:nextA σ src j=some none):forN body k src (n + 1) j lc σ=k lc σ:=by
 conv=>lhs;unfold forN
 rw [h]
theorem forN_step {body:AV→Lc→(Lc→PM AV)→PM AV} {k:Lc→PM AV} {src:Src} {n j:Nat} {lc:Lc} {v:AV} (h:nextA σ src j=some (some v)):forN body k src (n + 1) j lc σ=body v lc (λ lc'=>forN body k src n (j + 1) lc') σ:=by
 conv=>lhs;unfold forN
 rw [h]
inductive Lof (m:Nat) (σ:AH):AV→Prop
 | mk {g:Nat} {fs:List AV} (h:σ[g]? = some (.list fs)) (l:fs.length=m):Lof m σ (.obj g)
theorem Rs.go {body:AV→PM (List AV)} {l:List AV} (ok:Nat→Bool) (hl:l.length≤9000) (hb:∀ k v σ',l[k]? = some v→Kp NoP σ₀ σ'→Rs R σ₀ (body v) σ' (ok k) (λ x zz=>x.length=1)):
  ∀ (m j n:Nat) (σ:AH),l.length=j + m→m < n→Kp NoP σ₀ σ→Rs R σ₀ (goN body (.items l) n j) σ ((List.range' j m).all ok) (λ x zz=>x.length=m)
 | 0,j,n + 1,σ,h1,h2,k=>.good rfl [] σ (goN_end (by rw [nextA_items,List.getElem?_eq_none (by lia)])) k rfl
 | m + 1,j,n + 1,σ,h1,h2,k=>by
  have hv:l[j]? = some (l[j]'(by lia)):=List.getElem?_eq_getElem (by lia)
  refine Rs.eq (goN_step (by rw [nextA_items,hv]) (by unfold maxLen;lia)) ?_
  refine Rs.bind (hb j _ σ hv k) λ zz x σ₁ k1 e1=>?_
  refine Rs.tail (Rs.bind (Rs.go ok hl hb m (j + 1) n σ₁ (by lia) (by lia) k1) λ zz y σ₂ k2 e2=>Rs.ret k2 ?_)
  refine rwg (List.length_append ..) ?_
  refine rwg (e1 ..) ?_
  refine rwg (e2 ..) ?_
  refine rwg (Nat.add_comm ..) rfl
theorem range_all (p:It→Bool):∀ (m a:Nat) (is:List It),is.length=a + m→(List.range' a m).all (λ k=>at1 is k p)=(is.drop a).all p
 | 0,a,is,h=>by rw [List.drop_eq_nil_of_le (by lia)];rfl
 | m + 1,a,is,h=>by
  rw [List.drop_eq_getElem_cons (by lia)]
  show (at1 is a p && (List.range' (a + 1) m).all λ k=>at1 is k p)=(p (is[a]'(by lia)) && (is.drop (a + 1)).all p)
  rw [range_all p m (a + 1) is (by lia),at_some (List.getElem?_eq_getElem (by lia))]
theorem small_nat {a:Nat} (h:a≤9000):smallI (a:Int)=true:=by unfold smallI;simp;lia
theorem run_range2 {a b:Nat} (ha:a≤9000) (hb:b≤9000):callB tb0 .range [.int a,.int b] σ=some (.ok (.rng a b),σ):=by
 show (if smallI (a:Int)=true∧smallI (b:Int)=true then pure (.rng a b) else PM.fail:PM AV) σ=_
 rw [if_pos ⟨small_nat ha,small_nat hb⟩];rfl
theorem run_range1 {b:Nat} (hb:b≤9000):callB tb0 .range [.int b] σ=some (.ok (.rng 0 b),σ):=by
 show (if smallI (b:Int)=true then pure (.rng 0 b) else PM.fail:PM AV) σ=_
 rw [if_pos (small_nat hb)];rfl
theorem range_shift (ok:Nat→Bool) (a:Nat):∀ (m j:Nat),(List.range' (a + j) m).all ok=(List.range' j m).all λ k=>ok (a + k)
 | 0,zz=>rfl
 | m + 1,j=>by
  show (ok (a + j) && (List.range' (a + j + 1) m).all ok)=(ok (a + j) && (List.range' (j + 1) m).all λ k=>ok (a + k))
  rw [← range_shift ok a m (j + 1)];rfl
theorem rs_comp {f:AV→PM AV} {P:AV→AH→Prop} {a b:Nat} {y z:Int} (ok:Nat→Bool) (hy:y=a) (hz:z=b) (ha:a≤9000) (hb:b≤9000) (hf:10000≤fuel) (H:∀ (k:Nat) σ',Kp NoP σ σ'→Rs R σ (f (.int k)) σ' (ok k) P):
  Rs R σ (srcOf (.rng y z)>>=λ src=>goN (λ x=>f x>>=λ y=>pure [y]) src fuel 0>>=λ vs=>newL vs) σ ((List.range' a (b - a)).all ok) (λ v σ'=>Lof (b - a) σ' v):=by
 subst hy hz
 refine Rs.run (v:=.items (rangeA a b)) (σ₁:=σ) ?_ ?_
 ·show (if (b:Int) - a≤maxLen then pure (Src.items (rangeA a b)) else PM.fail:PM Src) σ=_
  rw [if_pos (by unfold maxLen;lia)];rfl
 have hlen:(rangeA a b).length=b - a:=by simp [rangeA]
 have hg:∀ k v,(rangeA a b)[k]? = some v→v=AV.int (a + k:Nat):=λ k v h=>by
  unfold rangeA at h
  rw [List.getElem?_map] at h
  refine ex12 (Option.map_eq_some_iff.mp h) λ k' h1 rr2=>?_
  subst rr2
  rw [List.getElem?_range (by have:=(List.getElem?_eq_some_iff.mp h1).1;simpa using this)] at h1
  clear H hf hb ha ok h hlen P f b
  cases h1;rfl
 refine Rs.cast (Rs.tail (Rs.bind (Rs.go (λ k=>ok (a + k)) (by lia) (λ k v σ' h k1=>?_) (b - a) 0 fuel σ (by lia) (by lia) (.refl _)) λ zz x σ₁ k1 e1=>?_)) (range_shift ok a (b - a) 0).symm
 ·refine rwg (hg k v h ..) ?_
  exact Rs.tail (Rs.bind (H (a + k) σ' k1) λ zz v σ₁ k2 zz=>Rs.ret k2 rfl)
 ·exact .good rfl _ _ (run_newL (by unfold maxLen;lia)) (k1.to _) (.mk (get_push _ _) e1)
theorem rs_cores (hf:10000≤fuel) (L:Ls R n σ i is) (k:Nat) {z:Int} (hz:z=k) (hk:k≤is.length):Rs R σ (callF tb0 fuel (d + 4) 599 [.obj i,.int z]) σ ((is.drop k).all It.isCore) (λ v σ'=>∃ m,Lof m σ' v):=by
 refine rwg (den_599 ..) ?_
 have L':=L
 obtain @⟨j,q,vs,m,r,O,X⟩:=L
 subst hz
 have lv:=X.length
 refine Rs.run (v:=.rng k vs.length) (σ₁:=σ) (run_seq (σ₁:=σ) (v:=.int k) rfl (run_seq O.len (run_nil (run_range2 (by lia) (by lia))))) ?_
 refine (Rs.cast (rs_comp (λ k=>at1 is k It.isCore) rfl rfl (by lia) (by lia) hf λ k σ' k1=>(rs_core (L'.no k1) k rfl).base k1) ?_).post λ zz v σ' zz h=>⟨_,h⟩
 refine rwg (lv ..) ?_
 exact range_all _ _ _ _ (by lia)
inductive LAt (is:List It) (k:Nat) (σ:AH) (v:AV):Prop
 | mk {it:It} (e:is[k]? = some it) (l:Lof it.parts.length σ v)
theorem rs_names (hf:10000≤fuel) (L:Ls R n σ i is) (k:Nat) {z:Int} (hz:z=k):Rs R σ (callF tb0 fuel (d + 4) 604 [.obj i,.int z]) σ (at1 is k It.isNames) (λ v σ'=>LAt is k σ' v):=by
 rw [den_604]
 obtain @⟨j,q,vs,m,r,O,X⟩:=L
 subst hz
 have e:at1 is k It.isNames=(at1 is k It.isList && at1 is k λ it=>it.parts.all It.isName):=by unfold at1;cases is[k]?<;>rfl
 refine rwg (e ..) ?_
 refine Rs.guard O r (.refl _) (run_look O X λ v it hv zz x=>run_tt (run_seq (O.part hv rfl) (run_seq (σ₁:=σ) (v:=.val 438) rfl (run_nil (run_inst x.isList))))) ⟨_,_,rfl⟩ λ ok=>?_
 refine ex12 (at_true ok) λ it e h=>?_
 refine ex12 (X.at e) λ v hv x=>?_
 refine rwg (at_some e ..) ?_
 obtain⟨i',rfl,L2⟩:=x.ls h
 refine Rs.run (O.part hv rfl) ?_
 have L':=L2
 obtain @⟨j',q',vs',m',r',O',X'⟩:=L2
 have lv:=X'.length
 refine Rs.run (v:=.rng 0 vs'.length) (σ₁:=σ) (run_seq O'.len (run_nil (run_range1 (by lia)))) ?_
 refine (Rs.cast (rs_comp (a:=0) (λ k=>at1 it.parts k It.isName) rfl rfl (by lia) (by lia) hf λ k σ' k1=>(rs_name (L'.no k1) k rfl).base k1) ?_).post λ zz v σ' zz h=>⟨e,?_⟩
 ·rw [lv]
  exact range_all _ _ _ _ (by lia)
 ·rw [lv] at h;exact h
inductive BindAt (σ:AH):AV→Prop
 | mk {b:Nat} {x y:AV} (h:σ[b]? = some (.inst 459 [(nm "name",x),(nm "body",y)])):BindAt σ (.obj b)
theorem rs_bind (L:Ls R n σ i is):Rs R σ (callF tb0 fuel (d + 4) 611 [.obj i]) σ (decide (is.length=2) && (at1 is 0 It.isName && at1 is 1 It.isCore)) (λ v σ'=>BindAt σ' v):=by
 rw [den_611]
 refine Rs.bind ((rs_many L 2 2 rfl rfl).cast ?_) λ zz zz σ₁ k1 zz=>Rs.seq ((rs_name (L.no k1) 0 rfl).base k1) λ zz v1 σ₂ k2 zz=>Rs.tail (Rs.seq ((rs_core (L.no k2) 1 rfl).base k2) λ zz v2 σ₃ k3 zz=>?_)
 ·rw [← Bool.decide_and];exact decide_eq_decide.mpr ⟨λ h=>by lia,λ h=>by lia⟩
 ·exact .good rfl _ _ (run_nil new_bind) (k3.to _) (.mk (get_push _ _))
end
section
variable {R:Pos→Prop} {n:Nat} {σ σ' σ₀:AH} {i:Nat} {is:List It} {fuel d:Nat}
theorem kvGet_same (x:Str) (v:AV):∀ lc:Lc,kvGet (kvSet lc x v) x=some v
 | []=>if_pos rfl
 | (y,w) :: r=>by
  unfold kvSet
  by_cases h:y=x
  ·rw [if_pos h];exact if_pos h
  ·rw [if_neg h];exact (if_neg h).trans (kvGet_same x v r)
theorem kvGet_ne {x y:Str} (v:AV) (hn:y≠x):∀ lc:Lc,kvGet (kvSet lc y v) x=kvGet lc x
 | []=>if_neg hn
 | (z,w) :: r=>by
  unfold kvSet
  by_cases h:z=y
  ·rw [if_pos h];subst h
   exact (if_neg hn).trans (if_neg hn).symm
  ·rw [if_neg h]
   show (if z=x then some w else kvGet (kvSet r y v) x)=(if z=x then some w else kvGet r x)
   rw [kvGet_ne v hn r]
theorem run_lk {lc:Lc} {x:Str} {v:AV} (h:kvGet lc x=some v):lk lc x σ=some (.ok v,σ):=by unfold lk;rw [h];rfl
theorem Kp.setNew {i:Nat} {o:AO} (k:Kp NoP σ₀ σ) (h:σ₀.length≤i):Kp NoP σ₀ (σ.set i o):=
 ⟨by rw [List.length_set];exact k.1,λ x o' n e=>by rw [List.getElem?_set_ne (by have:=lt_of_get e;lia)];exact k.2 x o' n e⟩
theorem Rs.base2 {α:Type} {m:PM α} {ok:Bool} {P:α→AH→Prop} (k:Kp NoP σ₀ σ) (x:Rs R σ m σ ok P):Rs R σ₀ m σ ok (λ v σ'=>Kp NoP σ σ'∧P v σ'):=by
 cases x with
 | good a v σ' e k' p=>exact .good a v σ' e (k.trans k') ⟨k',p⟩
 | bad a q σ' e r k'=>exact .bad a q σ' e r (k.trans k')
theorem bind_at {x y:AV} {b:Nat} (h:σ[b]? = some (.inst 459 [(nm "name",x),(nm "body",y)])):attrA tb0 (.obj b) (nm "name") σ=some (.ok x,σ)∧attrA tb0 (.obj b) (nm "body") σ=some (.ok y,σ):=
 ⟨run_attr h (by kernel_rfl) (by kernel_rfl),run_attr h (by kernel_rfl) (by kernel_rfl)⟩
noncomputable def bndBody (c:CC) (fuel:Nat) (l f:Str) (s:List Nat):AV→Lc→(Lc→PM AV)→PM AV:=(λ v11 lc9 kk10=>(((((seqA [lk (kvSet lc9 (nm "item") v11) (nm "item"),(pure (.val 438))]>>=λ vs13=>(callB tb0 .isinstance vs13)))>>=λ v14=>(truthA v14))>>=λ b=>pure !b)>>=λ tc=>match tc with
 | true=>((seqA [lk (kvSet lc9 (nm "item") v11) l,(pure (.str s))]>>=λ vs15=>(c 573 vs15))>>=λ zz=>(((seqA [lk (kvSet lc9 (nm "item") v11) (nm "item")]>>=λ vs16=>(c 611 vs16)))>>=λ x17=>(((lk (kvSet (kvSet lc9 (nm "item") v11) (nm "bind") x17) f)>>=λ v18=>(methA tb0 v18 (nm "append")>>=λ m19=>(seqA [(seqA [((lk (kvSet (kvSet lc9 (nm "item") v11) (nm "bind") x17) (nm "bind"))>>=λ v22=>(attrA tb0 v22 (nm "name"))),((lk (kvSet (kvSet lc9 (nm "item") v11) (nm "bind") x17) (nm "bind"))>>=λ v23=>(attrA tb0 v23 (nm "body")))]>>=λ vs24=>(if vs24.length≤maxLen then pure (.tup vs24) else PM.fail))]>>=λ vs25=>callM ⟨tb0,c,fuel⟩ m19 v18 vs25)))>>=λ zz=>(kk10 (kvSet (kvSet lc9 (nm "item") v11) (nm "bind") x17)))))
 | false=>(((seqA [lk (kvSet lc9 (nm "item") v11) (nm "item")]>>=λ vs26=>(c 611 vs26)))>>=λ x27=>(((lk (kvSet (kvSet lc9 (nm "item") v11) (nm "bind") x27) f)>>=λ v28=>(methA tb0 v28 (nm "append")>>=λ m29=>(seqA [(seqA [((lk (kvSet (kvSet lc9 (nm "item") v11) (nm "bind") x27) (nm "bind"))>>=λ v32=>(attrA tb0 v32 (nm "name"))),((lk (kvSet (kvSet lc9 (nm "item") v11) (nm "bind") x27) (nm "bind"))>>=λ v33=>(attrA tb0 v33 (nm "body")))]>>=λ vs34=>(if vs34.length≤maxLen then pure (.tup vs34) else PM.fail))]>>=λ vs35=>callM ⟨tb0,c,fuel⟩ m29 v28 vs35)))>>=λ zz=>(kk10 (kvSet (kvSet lc9 (nm "item") v11) (nm "bind") x27))))))
theorem rs_bnds {ir fo s:Nat} {isr:List It} {vs:List AV} {ok2:Bool} {P:AV→AH→Prop} {l f:Str} {w:List Nat} {kont:Lc→PM AV} (hl1:nm "item"≠l) (hl2:nm "bind"≠l) (hf1:nm "item"≠f) (hf2:nm "bind"≠f) (L:Ls R n σ₀ ir isr) (X:RepIs R n σ₀ vs is) (hm:is.length≤9000) (hfo:σ₀.length≤fo) (hs:s≠fo)
  (K:∀ σ' lc' fs',Kp NoP σ₀ σ'→σ'[fo]? = some (.list fs')→fs'.length=vs.length→kvGet lc' f=some (.obj fo)→kvGet lc' l=some (.obj ir)→Rs R σ₀ (kont lc') σ' ok2 P):
  ∀ (m idx N:Nat) (σ:AH) (lc:Lc) (fs:List AV),vs.length=idx + m→m < N→Kp NoP σ₀ σ→σ[fo]? = some (.list fs)→fs.length=idx→σ[s]? = some (.list vs)→kvGet lc l=some (.obj ir)→kvGet lc f=some (.obj fo) →
   Rs R σ₀ (forN (bndBody (callF tb0 fuel (d + 4)) fuel l f w) kont (.lst s) N idx lc) σ ((is.drop idx).all It.isBind && ok2) P
 | 0,idx,N + 1,σ,lc,fs,h1,h2,k,e1,e2,e3,g1,g2=>by
  have:=X.length
  rw [List.drop_eq_nil_of_le (by lia)]
  refine Rs.eq (forN_end (by rw [nextA_lst e3,List.getElem?_eq_none (by lia)])) (K σ lc fs k e1 (by lia) g2 g1)
 | m + 1,idx,N + 1,σ,lc,fs,h1,h2,k,e1,e2,e3,g1,g2=>by
  have lv:=X.length
  have hi:is[idx]? = some (is[idx]'(by lia)):=List.getElem?_eq_getElem (by lia)
  refine ex12 (X.at hi) λ v hv x=>?_
  refine Rs.eq (forN_step (v:=v) (by rw [nextA_lst e3,hv])) ?_
  have dr:is.drop idx=is[idx]'(by lia) :: is.drop (idx + 1):=List.drop_eq_getElem_cons (by lia)
  refine rwg (dr ..) ?_
  generalize (is[idx]'(by lia))=it at hi x dr
  show Rs R σ₀ _ σ (it.isBind && (is.drop (idx + 1)).all It.isBind && ok2) P
  have ea:(it.isBind && (is.drop (idx + 1)).all It.isBind && ok2)=(it.isList && ((decide (it.parts.length=2) && (at1 it.parts 0 It.isName && at1 it.parts 1 It.isCore)) && ((is.drop (idx + 1)).all It.isBind && ok2))):=by
   unfold It.isBind;simp only [Bool.and_assoc]
  refine rwg (ea ..) ?_
  have x:=x.no k
  have gi:=kvGet_same (nm "item") v lc
  have gl:kvGet (kvSet lc (nm "item") v) l=some (.obj ir):=(kvGet_ne v hl1 lc).trans g1
  have gf:kvGet (kvSet lc (nm "item") v) f=some (.obj fo):=(kvGet_ne v hf1 lc).trans g2
  have ht:(((seqA [lk (kvSet lc (nm "item") v) (nm "item"),(pure (.val 438))]>>=λ vs13=>(callB tb0 .isinstance vs13)))>>=λ v14=>(truthA v14)) σ=some (.ok it.isList,σ):=run_tt (run_seq (run_lk gi) (run_seq (σ₁:=σ) (v:=.val 438) rfl (run_nil (run_inst x.isList))))
  have L1:=L.no k
  obtain @⟨jr,qr,vsr,mr,rr,O,Xr⟩:=L1
  unfold bndBody
  cases hl:it.isList with
  | false=>
   rw [hl] at ht
   exact .bad rfl qr σ (run_bind (run_not ht) (run_err (run_seq (run_lk gl) (run_seq (σ₁:=σ) (v:=.str w) rfl (run_nil (run_refuse O)))))) rr k
  | true=>
   rw [hl] at ht
   refine Rs.run (run_not ht) ?_
   refine ex12 (x.ls hl) λ ib rr1 Lb=>?_
   subst rr1
   refine Rs.cast (Rs.bind (Rs.eq (run_seq (run_lk gi) (run_nil rfl)) ((rs_bind Lb).base2 k)) λ zz b σ₁ k1 hb=>?_) (Bool.true_and _).symm
   obtain⟨k0,hb⟩:=hb
   cases hb with
   | @mk b x1 y1 hb=>
   have gb:=kvGet_same (nm "bind") (.obj b) (kvSet lc (nm "item") (.obj ib))
   have gl2:=(kvGet_ne (AV.obj b) hl2 (kvSet lc (nm "item") (.obj ib))).trans gl
   have gf2:=(kvGet_ne (AV.obj b) hf2 (kvSet lc (nm "item") (.obj ib))).trans gf
   have f1:σ₁[fo]? = some (.list fs):=k0.2 _ _ (λ h=>h) e1
   have q1:=(bind_at hb).1
   have q2:=(bind_at hb).2
   refine Rs.run (v:=.none) (σ₁:=σ₁.set fo (.list (fs++[.tup [x1,y1]]))) ?_ (rs_bnds hl1 hl2 hf1 hf2 L X hm hfo hs K m (idx + 1) N _ _ _ (by lia) (by lia) (k1.setNew hfo) (get_set_self f1) (by rw [List.length_append,e2];rfl) (by rw [List.getElem?_set_ne (λ z=>hs z.symm)];exact (k0.2 _ _ (λ h=>h) e3)) gl2 gf2)
   refine run_bind (run_lk gf2) (run_append (X:=⟨tb0,callF tb0 fuel (d + 4),fuel⟩) f1 (run_seq (run_seq (run_bind (run_lk gb) q1) (run_seq (run_bind (run_lk gb) q2) rfl)) (run_nil (run_appendM f1 ?_))))
   unfold maxLen;lia
end
section
variable {R:Pos→Prop} {n:Nat} {σ σ' σ₀:AH} {i:Nat} {is:List It} {fuel d:Nat}
theorem rs_binds (hf:10000≤fuel) (L:Ls R n σ i is) (k:Nat) {z:Int} (hz:z=k):Rs R σ (callF tb0 fuel (d + 5) 618 [.obj i,.int z]) σ (at1 is k It.isBinds) (λ v σ'=>LAt is k σ' v):=by
 rw [den_618]
 obtain @⟨j,q,vs,m,r,O,X⟩:=L
 subst hz
 have e:at1 is k It.isBinds=(at1 is k It.isList && at1 is k λ it=>it.parts.all It.isBind):=by unfold at1;cases is[k]?<;>rfl
 refine rwg (e ..) ?_
 refine Rs.guard O r (.refl _) (run_look O X λ v it hv zz x=>run_tt (run_seq (O.part hv rfl) (run_seq (σ₁:=σ) (v:=.val 438) rfl (run_nil (run_inst x.isList))))) ⟨_,_,rfl⟩ λ ok=>?_
 refine ex12 (at_true ok) λ it e h=>?_
 refine ex12 (X.at e) λ v hv x=>?_
 refine rwg (at_some e ..) ?_
 refine ex12 (x.ls h) λ i' rr1 L2=>?_
 subst rr1
 have L':=L2
 obtain @⟨j',q',vs',m',r',O',X'⟩:=L2
 have lj:=lt_of_get O'.l
 have ka:Kp NoP σ (σ++[AO.list []]):=Kp.app _ _
 have O1:=O'.no ka
 refine Rs.run (O.part hv rfl) (Rs.run (run_newL (Nat.zero_le _)) (Rs.run O1.items (Rs.run (v:=.lst j') (run_bind (run_lsO O1.l) rfl) ?_)))
 exact Rs.tail (rs_bnds (l:=nm "inner") (f:=nm "found") (by decide +kernel) (by decide +kernel) (by decide +kernel) (by decide +kernel) L' X' m' (Nat.le_refl _) (by lia) (λ σ1 lc' fs' k1 e1 e2 g1 g2=>.good rfl _ _ (run_lk g1) k1 ⟨e,.mk e1 (by rw [e2,X'.length])⟩) vs'.length 0 fuel _ _ [] (by lia) (by have:=X'.length;lia) ka (get_push _ _) rfl O1.l (by kernel_rfl) (by kernel_rfl))
theorem slice_from {α:Type} (l:List α) (k:Nat) (hk:k≤9000) {z:Int} (hz:z=k):sliceL l (.int z) .none=some (l.drop k):=by
 subst hz
 have e:cutOf l.length 0 (.int (k:Nat))=some (min k l.length):=by
  show (if smallI (k:Int)=true then some (if 0≤(k:Int) then min (k:Int).toNat l.length else ((k:Int) + l.length).toNat) else Option.none)=_
  rw [if_pos (small_nat hk),if_pos (Int.natCast_nonneg k)];rfl
 unfold sliceL
 rw [e]
 show some ((l.take l.length).drop (min k l.length))=_
 rw [List.take_length]
 by_cases h:k≤l.length
 ·rw [Nat.min_eq_left h]
 ·rw [Nat.min_eq_right (by lia),List.drop_length,List.drop_eq_nil_of_le (by lia)]
theorem run_slice {j k:Nat} {vs:List AV} (h:σ[j]? = some (.list vs)) (hk:k≤9000) {z:Int} (hz:z=k):sliceA (.obj j) (.int z) .none σ=some (.ok (.obj σ.length),σ++[.list (vs.drop k)]):=by
 refine run_bind (run_lsO h) ?_
 refine rwg (slice_from vs k hk hz ..) ?_
 rfl
theorem rs_prog (hf:10000≤fuel) (L:Ls R n σ i is):Rs R σ (callF tb0 fuel (d + 5) 665 [.obj i]) σ (kProg is) (λ v σ'=>RepI R σ.length σ' v .prog):=by
 rw [den_665]
 have L':=L
 obtain @⟨j,q,vs,m,r,O,X⟩:=L
 have ka:Kp NoP σ (σ++[AO.list []]):=Kp.app _ _
 have O1:=O.no ka
 refine Rs.run (run_newL (Nat.zero_le _)) (Rs.run (run_bind O1.items (run_slice O1.l (k:=2) (by lia) rfl)) (Rs.run (v:=.lst (σ++[AO.list []]).length) (run_bind (run_lsO (get_push _ _)) rfl) ?_))
 have ln:(σ++[AO.list []]).length=σ.length + 1:=by simp
 refine rs_bnds (l:=nm "opened") (f:=nm "binds") (by decide +kernel) (by decide +kernel) (by decide +kernel) (by decide +kernel) L' (X.drop 2) (by rw [List.length_drop];lia) (Nat.le_refl _) (by lia) (λ σ1 lc' fs' k1 e1 e2 g1 g2=>?_) (vs.drop 2).length 0 fuel _ _ [] (by lia) (by have:=X.length;rw [List.length_drop];lia) (ka.to _) (getApp (get_push _ _)) rfl (get_push _ _) (by kernel_rfl) (by kernel_rfl)
 refine Rs.tail (Rs.seq ((Rs.eq (run_seq (run_lk g2) (run_seq (σ₁:=σ1) (v:=.int 1) rfl (run_nil rfl))) ((rs_name (L'.no k1) 1 rfl).base k1))) λ zz v σ2 k2 zz=>?_)
 refine .good rfl _ _ (run_seq (run_lk g1) (run_nil new_prog)) (k2.to _) (.prog k2.1 (get_push _ _))
end
section
variable {R:Pos→Prop} {n:Nat} {σ σ' σ₀:AH} {i:Nat} {is:List It} {fuel d:Nat}
noncomputable def sChar:List Nat:=[99,104,97,114]
noncomputable def sInt:List Nat:=[105,110,116]
theorem eq_str {a b:List Nat}:cmpV σ .Eq (.str a) (.str b)=some (decide (a=b)):=rfl
theorem many_eq {a:Nat}:(decide (a≤is.length) && decide (is.length≤a))=decide (is.length=a):=by
 rw [← Bool.decide_and];exact decide_eq_decide.mpr ⟨λ h=>by lia,λ h=>by lia⟩
theorem at_and (p q:It→Bool) (k:Nat):at1 is k (λ it=>p it && q it)=(at1 is k p && at1 is k q):=by unfold at1;cases is[k]?<;>rfl
theorem at_congr {p q:It→Bool} (h:∀ it,p it=q it) (k:Nat):at1 is k p=at1 is k q:=by unfold at1;cases is[k]?<;>first | rfl | exact h _
theorem rs_lit0 (w:List Nat) (L:Ls R n σ i is):Rs R σ (callF tb0 fuel (d + 3) 632 [.obj i,.str w]) σ (decide (is.length=2) && (at1 is 1 It.isNum && at1 is 1 λ it=>!(decide (w=sChar) && !it.isChr))) (λ v σ'=>RepI R σ.length σ' v .lit):=by
 rw [den_632]
 refine Rs.bind ((rs_many L 2 2 rfl rfl).cast many_eq) λ ok zz σ₁ k1 zz=>?_
 have L1:=L.no k1
 obtain @⟨j,q,vs,m,r,O,X⟩:=L1
 have hi:is[1]? = some (is[1]'(by have:=of_decide_eq_true ok;lia)):=List.getElem?_eq_getElem _
 generalize (is[1]'(by have:=of_decide_eq_true ok;lia))=it at hi
 refine ex12 (X.at hi) λ v hv x=>?_
 refine rwg (at_some hi ..) ?_
 refine rwg (at_some hi ..) ?_
 refine Rs.guard O r k1 (run_not (run_tt (run_seq (O.part hv rfl) (run_seq (σ₁:=σ₁) (v:=.str sNum) rfl (run_nil ((run_isw x sNum).trans (by rw [wordIs_num]))))))) ⟨_,_,rfl⟩ λ ok2=>?_
 clear L ok hi X m
 cases x with
 | @num iw k p a c h=>
  refine Rs.run (run_bind (O.part hv rfl) (word_val h)) ?_
  have hc:(It.num k).isChr=(decide (0≤k) && decide (k < 1114112)):=Bool.decide_and ..
  have ht:boolT .And [cmpA .Eq (.str w) (.str sChar),(chainA (.int 0) [.LtE,.Lt] [pure (.int k),pure (.int 1114112)]>>=λ b=>pure !b)] σ₁=some (.ok (!!(decide (w=sChar) && !(It.num k).isChr)),σ₁):=by
   refine rwg (Bool.not_not ..) ?_
   refine rwg (hc ..) ?_
   exact run_and (run_cmp eq_str) λ zz=>run_and1 (run_not (run_chain2 rfl rfl rfl rfl))
  refine Rs.tail (Rs.guard O r k1 ht ⟨_,_,rfl⟩ λ ok3=>?_)
  cases hw:decide (w=sChar) with
  | false=>exact .good rfl _ _ (run_seq (σ₁:=σ₁) (v:=.str w) rfl (run_seq (σ₁:=σ₁) (v:=.int k) (run_bind (run_cmp (eq_str.trans (congrArg some hw))) rfl) (run_nil new_lit))) (k1.to _) (.lit k1.1 (get_push _ _))
  | true=>
   rw [hw] at ok3
   have h97:k=5∨k=97:=by
    have:(It.num k).isChr=true:=by simpa using ok3
    have:=of_decide_eq_true this
    lia
   have hch:callB tb0 .chr [.int k] σ₁=some (.ok (.str [k.toNat]),σ₁):=by
    show (if k=5∨k=97 then pure (.str [k.toNat]) else PM.fail:PM AV) σ₁=_
    rw [if_pos h97];rfl
   exact .good rfl _ _ (run_seq (σ₁:=σ₁) (v:=.str w) rfl (run_seq (run_bind (run_cmp (eq_str.trans (congrArg some hw))) hch) (run_nil new_lit))) (k1.to _) (.lit k1.1 (get_push _ _))
 | _=>cases ok2
theorem rs_int (L:Ls R n σ i is):Rs R σ (callF tb0 fuel (d + 3) 632 [.obj i,.str sInt]) σ (kInt is) (λ v σ'=>RepI R σ.length σ' v .lit):=
 (rs_lit0 sInt L).cast (congrArg (decide (is.length=2) && ·) ((at_and It.isNum _ 1).symm.trans (at_congr (λ it=>Bool.and_true _) 1)))
theorem rs_char (L:Ls R n σ i is):Rs R σ (callF tb0 fuel (d + 3) 632 [.obj i,.str sChar]) σ (kChar is) (λ v σ'=>RepI R σ.length σ' v .lit):=
 (rs_lit0 sChar L).cast (congrArg (decide (is.length=2) && ·) ((at_and It.isNum _ 1).symm.trans (at_congr (λ it=>by cases it<;>first | rfl | exact Bool.not_not _) 1)))
theorem run_empty {g:Nat} {fs:List AV} (h:σ[g]? = some (.list fs)):(newL []>>=λ v=>cmpA .Eq (.obj g) v) σ=some (.ok (!decide (0 < fs.length)),σ++[.list []]):=by
 refine run_bind (run_newL (Nat.zero_le _)) (run_cmp ?_)
 have lg:=lt_of_get h
 show (match (σ++[AO.list []])[g]?,(σ++[AO.list []])[σ.length]? with
  | some (.list a),some (.list b)=>if g=σ.length then Option.none else eqLists a b
  | zz,zy=>Option.none)=_
 refine rwg (getApp h ..) ?_
 refine rwg (get_push ..) ?_
 show (if g=σ.length then Option.none else eqLists fs [])=_
 rw [if_neg (by lia)]
 clear h lg g
 cases fs with
 | nil=>rfl
 | cons a r=>rfl
theorem LAt.full {k:Nat} {v:AV} (h:LAt is k σ v):∃ g fs,v = .obj g∧σ[g]? = some (.list fs)∧decide (0 < fs.length)=at1 is k It.isFull:=by
 obtain⟨e,l⟩:=h
 cases l with
 | mk h l=>exact⟨_,_,rfl,h,by rw [at_some e,l];rfl⟩
theorem rs_let (hf:10000≤fuel) (b:Bool) (L:Ls R n σ i is):Rs R σ (callF tb0 fuel (d + 6) 639 [.obj i,.bool b]) σ (kLet is) (λ v σ'=>RepI R σ.length σ' v .core):=by
 rw [den_639]
 refine Rs.bind ((rs_many L 3 3 rfl rfl).cast many_eq) λ ok zz σ₁ k1 zz=>Rs.bind ((rs_binds hf (L.no k1) 1 rfl).base k1) λ zz v σ₂ k2 h=>?_
 obtain⟨g,fs,rfl,h,e⟩:=h.full
 have k3:=k2.to [.list []]
 have L3:=L.no k3
 obtain @⟨j,q,vs,m,r,O,X⟩:=L3
 refine Rs.guard O r k3 ((run_empty h).trans (by rw [e])) ⟨_,_,rfl⟩ λ zz=>?_
 refine Rs.eq (run_seq (σ₁:=σ₂++[.list []]) (v:=.obj g) rfl rfl) (Rs.tail (Rs.seq ((rs_core (L.no k3) 2 rfl).base k3) λ zz v2 σ₄ k4 zz=>?_))
 exact .good rfl _ _ (run_seq (σ₁:=σ₄) (v:=.bool b) rfl (run_nil new_let)) (k4.to _) (.core k4.1 (by decide) (get_push _ _))
theorem rs_lam (hf:10000≤fuel) (L:Ls R n σ i is):Rs R σ (callF tb0 fuel (d + 5) 646 [.obj i]) σ (kLam is) (λ v σ'=>RepI R σ.length σ' v .core):=by
 rw [den_646]
 refine Rs.bind ((rs_many L 3 3 rfl rfl).cast many_eq) λ ok zz σ₁ k1 zz=>Rs.bind ((rs_names hf (L.no k1) 1 rfl).base k1) λ zz v σ₂ k2 h=>?_
 obtain⟨g,fs,rfl,h,e⟩:=h.full
 have k3:=k2.to [.list []]
 have L3:=L.no k3
 obtain @⟨j,q,vs,m,r,O,X⟩:=L3
 refine Rs.guard O r k3 ((run_empty h).trans (by rw [e])) ⟨_,_,rfl⟩ λ zz=>?_
 refine Rs.eq (run_seq (σ₁:=σ₂++[.list []]) (v:=.obj g) rfl rfl) (Rs.tail (Rs.seq ((rs_core (L.no k3) 2 rfl).base k3) λ zz v2 σ₄ k4 zz=>?_))
 exact .good rfl _ _ (run_nil new_lam) (k4.to _) (.core k4.1 (by decide) (get_push _ _))
theorem run_tup2 {f:List AV→PM AV} {a b:AV} {m1 m2:PM AV} {σ₁ σ₂:AH} (h1:m1 σ=some (.ok a,σ₁)) (h2:m2 σ₁=some (.ok b,σ₂)):(seqA [m1,m2]>>=λ vs=>(if vs.length≤maxLen then pure (.tup vs) else PM.fail:PM AV)) σ=some (.ok (.tup [a,b]),σ₂):=run_seq h1 (run_seq h2 rfl)
noncomputable def sOf:List Nat:=[111,102]
noncomputable def sIs:List Nat:=[105,115]
theorem rs_of (hf:10000≤fuel) (L:Ls R n σ i is):Rs R σ (callF tb0 fuel (d + 5) 653 [.obj i,.str sOf]) σ (kOf is) (λ v σ'=>RepI R σ.length σ' v .way):=by
 refine rwg (den_653 ..) ?_
 refine Rs.run (run_cmp (r:=true) rfl) (Rs.bind ((rs_many L 4 4 rfl rfl).cast many_eq) λ ok zz σ₁ k1 zz=>?_)
 refine Rs.seq (P1:=Any) (Rs.eq (run_seq (σ₁:=σ₁) (v:=.str [99,111,110]) rfl rfl) (Rs.tail (Rs.seq ((rs_name (L.no k1) 1 rfl).base k1) λ zz v σ₂ k2 zz=>?_))) λ zz v σ₂ k2 zz=>Rs.seq ((rs_names hf (L.no k2) 2 rfl).base k2) λ zz v3 σ₃ k3 zz=>Rs.tail (Rs.seq ((rs_core (L.no k3) 3 rfl).base k3) λ zz v4 σ₄ k4 zz=>?_)
 ·exact .good rfl _ σ₂ rfl k2 trivial
 ·exact .good rfl _ _ (run_nil new_alt) (k4.to _) (.way k4.1 (get_push _ _))
theorem rs_is (L:Ls R n σ i is):Rs R σ (callF tb0 fuel (d + 5) 653 [.obj i,.str sIs]) σ (kIs is) (λ v σ'=>RepI R σ.length σ' v .way):=by
 rw [den_653]
 refine Rs.run (run_cmp (r:=false) rfl) (Rs.bind ((rs_many L 3 3 rfl rfl).cast many_eq) λ ok zz σ₁ k1 zz=>?_)
 have L1:=L.no k1
 have L1':=L1
 obtain @⟨j,q,vs,m,r,O,X⟩:=L1
 have hi:is[1]? = some (is[1]'(by have:=of_decide_eq_true ok;lia)):=List.getElem?_eq_getElem _
 generalize (is[1]'(by have:=of_decide_eq_true ok;lia))=it at hi
 refine ex12 (X.at hi) λ v hv x=>?_
 refine rwg (at_some hi ..) ?_
 refine Rs.run (O.part hv rfl) (Rs.guard O r k1 (run_not (run_tt (run_inst x.isLit))) ⟨_,_,rfl⟩ λ ok2=>?_)
 clear ok hi L1' hv X O r m vs q j
 cases x with
 | @lit il a b hn h=>
  have q1:attrA tb0 (.obj il) (nm "kind") σ₁=some (.ok a,σ₁):=run_attr h (by kernel_rfl) (by kernel_rfl)
  have q2:attrA tb0 (.obj il) (nm "value") σ₁=some (.ok b,σ₁):=run_attr h (by kernel_rfl) (by kernel_rfl)
  have k2:=k1.to [.list []]
  refine Rs.eq (run_seq (run_seq (σ₁:=σ₁) (v:=.str [108,105,116]) rfl (run_seq q1 (run_seq q2 rfl))) (run_seq (run_newL (Nat.zero_le _)) rfl)) (Rs.tail (Rs.seq ((rs_core (L.no k2) 2 rfl).base k2) λ zz v4 σ₄ k4 zz=>?_))
  exact .good rfl _ _ (run_nil new_alt) (k4.to _) (.way k4.1 (get_push _ _))
 | _=>cases ok2
end
section
variable {R:Pos→Prop} {n:Nat} {σ σ' σ₀:AH} {i:Nat} {is:List It} {fuel d:Nat}
theorem goN_map {body:AV→PM (List AV)} {s:Nat} {vs:List AV} (g:It→AV) (h:σ[s]? = some (.list vs)) (X:RepIs R n σ vs is) (hm:is.length≤9000) (hb:∀ v it,RepI R n σ v it→body v σ=some (.ok [g it],σ)):
  ∀ (m idx N:Nat),is.length=idx + m→m < N→goN body (.lst s) N idx σ=some (.ok ((is.drop idx).map g),σ)
 | 0,idx,N + 1,h1,h2=>by
  rw [List.drop_eq_nil_of_le (by lia)]
  exact goN_end (by rw [nextA_lst h,List.getElem?_eq_none (by have:=X.length;lia)])
 | m + 1,idx,N + 1,h1,h2=>by
  refine ex12 (X.at (List.getElem?_eq_getElem (by lia):is[idx]? = some (is[idx]'(by lia)))) λ v hv x=>?_
  rw [List.drop_eq_getElem_cons (by lia)]
  refine (goN_step (by rw [nextA_lst h,hv]) (by unfold maxLen;lia)).trans (run_bind (hb v _ x) (run_bind (goN_map g h X hm hb m (idx + 1) N (by lia) (by lia)) rfl))
theorem bools_map (p:It→Bool):∀ is:List It,boolsOf (is.map λ it=>.bool (p it))=some (is.map p)
 | []=>rfl
 | it :: r=>by
  show (boolsOf (r.map λ it=>.bool (p it))).map (p it :: ·)=_
  rw [bools_map p r];rfl
theorem all_id (p:It→Bool):∀ is:List It,(is.map p).all id=is.all p
 | []=>rfl
 | it :: r=>congrArg (p it && ·) (all_id p r)
theorem run_ways (hf:10000≤fuel) (L:Ls R n σ i is):(((seqA [(((attrA tb0 (.obj i) (nm "items")))>>=λ v5=>(srcOf v5>>=λ src=>goN (λ x4=>((callB tb0 .isinstance [x4,(.val 242)])>>=λ y=>pure [y])) src fuel 0>>=λ vs=>newL vs))]>>=λ vs6=>(callB tb0 .all vs6)))>>=λ v7=>(truthA v7)) σ=some (.ok (is.all It.isWay),σ++[.list (is.map λ it=>.bool it.isWay)]):=by
 obtain @⟨j,q,vs,m,r,O,X⟩:=L
 have lv:=X.length
 refine run_tt (run_seq (run_bind O.items (run_bind (v:=.lst j) (run_bind (run_lsO O.l) rfl) (run_bind (goN_map (λ it=>.bool it.isWay) O.l X m (λ v it x=>run_bind (run_inst x.isWay) rfl) is.length 0 fuel (by lia) (by lia)) (run_newL (by rw [List.length_map];unfold maxLen;exact Nat.le_trans (Nat.le_of_eq (List.length_drop ..)) (by lia)))))) ?_)
 refine run_nil (run_bind (run_lsO (get_push _ _)) ?_)
 show (PM.ofOpt (boolsOf (is.map λ it=>.bool it.isWay))>>=λ bs=>pure (AV.bool (bs.all id))) _=_
 refine rwg (bools_map ..) ?_
 show some (Except.ok (AV.bool ((is.map It.isWay).all id)),_)=_
 rw [all_id];rfl
theorem Ls.full {i2:Nat} (L:Ls R n σ i2 is):(((attrA tb0 (.obj i2) (nm "items")))>>=λ v16=>(newL [])>>=λ v17=>(cmpA .Eq v16 v17)) σ=some (.ok (!decide (0 < is.length)),σ++[.list []]):=by
 obtain @⟨j,q,vs,m,r,O,X⟩:=L
 exact run_bind O.items ((run_empty O.l).trans (by rw [X.length]))
theorem swap_and:∀ a b c:Bool,(a && (b && c))=(b && (a && c)):=by decide
theorem rs_caseEnd {i2:Nat} {is2:List It} {x15:AV} (hx:σ₀.length≤σ.length) (k:Kp NoP σ₀ σ) (L:Ls R n σ i is) (L2:Ls R n σ i2 is2):Rs R σ₀ (seqA [(callF tb0 fuel (d + 3) 594 [.obj i,(.int 1)]),(callF tb0 fuel (d + 3) 587 [.obj i,(.int 2)]),(seqA [(attrA tb0 (.obj i2) (nm "items"))]>>=λ vs18=>(callB tb0 .list vs18)),(pure x15)]>>=λ vs19=>(callF tb0 fuel (d + 3) 282 vs19)) σ (at1 is 1 It.isCore && at1 is 2 It.isName) (λ v σ'=>RepI R σ₀.length σ' v .core):=by
 refine Rs.seq ((rs_core L 1 rfl).base2 k) λ zz v1 σ₁ k1 h1=>Rs.tail (Rs.seq ((rs_name (L.no h1.1) 2 rfl).base2 k1) λ zz v2 σ₂ k2 h2=>?_)
 have L3:=L2.no (h1.1.trans h2.1)
 obtain @⟨j,q,vs,m,r,O,X⟩:=L3
 exact .good rfl _ _ (run_seq (run_seq O.items (run_nil (run_bind (run_lsO O.l) rfl))) (run_seq (σ₁:=σ₂++[.list vs]) (v:=x15) rfl (run_nil new_case))) ((k2.to _).to _) (.core (k2.to [.list vs]).1 (by decide) (get_push _ _))
theorem rs_case (hf:10000≤fuel) (L:Ls R n σ i is):Rs R σ (callF tb0 fuel (d + 4) 658 [.obj i]) σ (kCase is) (λ v σ'=>RepI R σ.length σ' v .core):=by
 refine rwg (den_658 ..) ?_
 have many:Rs R σ (callF tb0 fuel (d + 3) 625 [.obj i,.int 4,.int 5]) σ (decide (4≤is.length) && decide (is.length≤5)) Any:=rs_many L 4 5 rfl rfl
 by_cases h45:is.length=4∨is.length=5
 case neg=>
  have e1:(decide (4≤is.length) && decide (is.length≤5))=false:=by rw [← Bool.decide_and];exact decide_eq_false (by lia)
  rw [e1] at many
  cases many with
  | good h=>cases h
  | bad h q σ' e r k=>exact .bad (by unfold kCase;rw [decide_eq_false (show ¬ is.length=4 by lia),decide_eq_false (show ¬ is.length=5 by lia)];rfl) q σ' (run_err e) r k
 have e1:(decide (4≤is.length) && decide (is.length≤5))=true:=by rw [← Bool.decide_and];exact decide_eq_true (by lia)
 rw [e1] at many
 refine Rs.cast (Rs.bind (ok2:=kCase is) many λ zz zz σ₁ k1 zz=>?_) (Bool.true_and _)
 have L1:=L.no k1
 have L1':=L1
 obtain @⟨j,q,vs,m,r,O,X⟩:=L1
 have hi:is[3]? = some (is[3]'(by lia)):=List.getElem?_eq_getElem _
 generalize (is[3]'(by lia))=it at hi
 refine ex12 (X.at hi) λ v hv x=>?_
 refine Rs.run (O.part hv rfl) ?_
 have e3:at1 is 3 It.isWays=it.isWays:=at_some hi
 have e4:at1 is 3 It.isFull=it.isFull:=at_some hi
 have e5:kCase is=(it.isWays && ((if is.length=5 then at1 is 4 It.isEls else it.isFull) && (at1 is 1 It.isCore && at1 is 2 It.isName))):=by
  unfold kCase
  refine rwg (e3 ..) ?_
  refine rwg (e4 ..) ?_
  rcases h45 with h | h
  ·rw [h];rfl
  ·rw [h]
   show (at1 is 4 It.isEls && (it.isWays && (at1 is 1 It.isCore && at1 is 2 It.isName)))=(it.isWays && (at1 is 4 It.isEls && (at1 is 1 It.isCore && at1 is 2 It.isName)))
   exact swap_and ..
 refine rwg (e5 ..) ?_
 clear L e5 e4 e3 hi e1 many hv m
 cases hl:it.isList with
 | false=>
  have ew:it.isWays=false:=by unfold It.isWays;rw [hl];rfl
  rw [ew]
  exact .bad rfl q σ₁ (run_bind (run_or (a:=true) (b:=true) (run_not (run_tt (run_inst (x.isList.trans (congrArg some hl))))) λ h=>nomatch h) (run_err (run_refuse O))) r k1
 | true=>
  have ew:it.isWays=it.parts.all It.isWay:=by unfold It.isWays;rw [hl];rfl
  rw [ew]
  refine ex12 (x.ls hl) λ i2 rr1 L2=>?_
  subst rr1
  have k2:=k1.to [.list (it.parts.map λ it=>.bool it.isWay)]
  have ka:Kp NoP σ₁ (σ₁++[.list (it.parts.map λ it=>.bool it.isWay)]):=.app _ _
  refine Rs.guard (O.no ka) r k2 (run_bind (v:=false) (run_not (run_tt (run_inst (x.isList.trans (congrArg some hl))))) (run_or1 (run_not (run_ways hf L2)))) ⟨_,_,rfl⟩ λ zz=>?_
  generalize hs2:(σ₁++[AO.list (it.parts.map λ it=>.bool it.isWay)])=σ₂ at k2 ka
  have L3:=L1'.no ka
  have L4:=L2.no ka
  have O3:=O.no ka
  have X3:=X.no ka
  have lv:=X.length
  rcases h45 with h | h
  ·rw [if_neg (by lia)]
   refine Rs.run (run_bind O3.len (run_cmp (r:=false) (congrArg some (decide_eq_false (by lia))))) ?_
   have k4:=k2.to [.list []]
   have kb:Kp NoP σ₂ (σ₂++[.list []]):=.app _ _
   exact Rs.guard (O3.no kb) r k4 ((run_and L4.full λ zz=>run_and1 (run_cmp (r:=true) rfl)).trans (congrArg (λ b=>some (Except.ok b,σ₂++[AO.list []])) (Bool.and_true _))) ⟨_,_,rfl⟩ λ zz=>rs_caseEnd k4.1 k4 (L3.no kb) (L4.no kb)
  ·rw [if_pos h]
   refine Rs.run (run_bind O3.len (run_cmp (r:=true) (congrArg some (decide_eq_true (by lia))))) ?_
   have hi5:is[4]? = some (is[4]'(by lia)):=List.getElem?_eq_getElem _
   generalize (is[4]'(by lia))=it5 at hi5
   refine ex12 (X3.at hi5) λ v5 hv5 x5=>?_
   refine rwg (at_some hi5 ..) ?_
   refine Rs.guard O3 r k2 (run_not (run_tt (run_seq (O3.part hv5 rfl) (run_seq (σ₁:=σ₂) (v:=.val 480) rfl (run_nil (run_inst x5.isEls)))))) ⟨_,_,rfl⟩ λ he=>?_
   cases x5 with
   | @els ie b a c hb=>
    have k4:=k2.to [.list []]
    have kb:Kp NoP σ₂ (σ₂++[.list []]):=.app _ _
    have hn:∀ σ:AH,cmpV σ .Is b .none=some false:=λ σ=>congrArg some c
    exact Rs.run (run_bind (O3.part hv5 rfl) (run_attr hb (by kernel_rfl) (by kernel_rfl))) (Rs.run (v:=false) (σ₁:=σ₂++[.list []]) ((run_and L4.full λ zz=>run_and1 (run_cmp (hn _))).trans (congrArg (λ b=>some (Except.ok b,σ₂++[AO.list []])) (Bool.and_false _))) (rs_caseEnd k4.1 k4 (L3.no kb) (L4.no kb)))
   | _=>cases he
end
section
variable {R:Pos→Prop} {n:Nat} {σ σ' σ₀:AH} {i:Nat} {is:List It} {fuel d:Nat}
noncomputable abbrev Clo (R:Pos→Prop) (N0:Nat) (is:List It):AV→AH→Prop:=λ v σ'=>∃ it,kd is=some it∧RepI R N0 σ' v it
theorem Rs.kd {σ₁:AH} {m:PM AV} {b:Bool} {it:It} {N N0:Nat} (h:Mine.kd is=gd b it) (hN:N0≤N) (x:Rs R σ₀ m σ₁ b (λ v σ'=>RepI R N σ' v it)):Rs R σ₀ m σ₁ (Mine.kd is).isSome (Clo R N0 is):=by
 refine Rs.cast (ok:=b) (x.post λ hb v σ' zz p=>⟨it,by rw [h,hb];rfl,p.move (λ zz r=>r) hN λ zz zz zz e=>e⟩) ?_
 rw [h];cases b<;>rfl
theorem rs_app (hf:10000≤fuel) (L:Ls R n σ i is):Rs R σ (((seqA [(pure (.obj i)),(pure (.int 3)),(seqA [(attrA tb0 (.obj i) (nm "items"))]>>=λ vs9=>(callB tb0 .len vs9))]>>=λ vs10=>(callF tb0 fuel (d + 6) 625 vs10))>>=λ zz=>(seqA [(callF tb0 fuel (d + 6) 594 [.obj i,(.int 1)]),(callF tb0 fuel (d + 6) 599 [.obj i,(.int 2)])]>>=λ vs11=>(callF tb0 fuel (d + 6) 141 vs11)))) σ (kApp is) (λ v σ'=>RepI R σ.length σ' v .core):=by
 have L':=L
 obtain @⟨j,q,vs,m,r,O,X⟩:=L
 have many:=rs_many (d:=d + 4) (fuel:=fuel) L' 3 is.length rfl rfl
 rw [show decide (is.length≤is.length)=true from decide_eq_true (Nat.le_refl _),Bool.and_true] at many
 have hO:=O.len
 rw [X.length] at hO
 refine Rs.bind (Rs.eq (run_seq (σ₁:=σ) (v:=.obj i) rfl (run_seq (σ₁:=σ) (v:=.int 3) rfl (run_seq hO (run_nil rfl)))) many) λ ok zz σ₁ k1 zz=>?_
 have h3:3≤is.length:=of_decide_eq_true ok
 have e:(is.drop 1).all It.isCore=(at1 is 1 It.isCore && (is.drop 2).all It.isCore):=by
  rw [List.drop_eq_getElem_cons (by lia),at_some (List.getElem?_eq_getElem (show 1 < is.length by lia))]
  rfl
 refine rwg (e ..) ?_
 refine Rs.seq ((rs_core (L'.no k1) 1 rfl).base k1) λ zz v1 σ₂ k2 zz=>Rs.tail (Rs.seq ((rs_cores hf (L'.no k2) 2 rfl (by lia)).base k2) λ zz v2 σ₃ k3 zz=>?_)
 exact .good rfl _ _ (run_nil new_app) (k3.to _) (.core k3.1 (by decide) (get_push _ _))
theorem rs_else (L:Ls R n σ i is):Rs R σ ((callF tb0 fuel (d + 6) 625 [.obj i,(.int 2),(.int 2)])>>=λ zz=>(seqA [(callF tb0 fuel (d + 6) 594 [.obj i,(.int 1)])]>>=λ vs13=>(callF tb0 fuel (d + 6) 480 vs13))) σ (kElse is) (λ v σ'=>RepI R σ.length σ' v .els):=by
 refine Rs.bind ((rs_many L 2 2 rfl rfl).cast many_eq) λ ok zz σ₁ k1 zz=>Rs.tail (Rs.seq ((rs_core (L.no k1) 1 rfl).base k1) λ zz v σ₂ k2 hv=>?_)
 exact .good rfl _ _ (run_nil new_else) (k2.to _) (.els k2.1 hv (get_push _ _))
theorem rs_con (hf:10000≤fuel) (L:Ls R n σ i is) {C:Nat} (hC:C∈coreCs) (hn:∀ (σ:AH) (a b:AV),∃ fs,callF tb0 fuel (d + 6) C [a,b] σ=some (.ok (.obj σ.length),σ++[.inst C fs])):Rs R σ (seqA [(callF tb0 fuel (d + 6) 587 [.obj i,(.int 1)]),(callF tb0 fuel (d + 6) 599 [.obj i,(.int 2)])]>>=λ vs14=>(callF tb0 fuel (d + 6) C vs14)) σ (kCon is) (λ v σ'=>RepI R σ.length σ' v .core):=by
 refine Rs.seq (rs_name L 1 rfl) λ ok v1 σ₁ k1 zz=>?_
 refine ex12 (at_true ok) λ it e zz=>?_
 have h2:=(List.getElem?_eq_some_iff.mp e).1
 refine Rs.tail (Rs.seq ((rs_cores hf (L.no k1) 2 rfl (by lia)).base k1) λ zz v2 σ₂ k2 zz=>?_)
 refine Exists.elim (hn σ₂ v1 v2) λ fs e=>?_
 exact .good rfl _ _ (run_nil e) (k2.to _) (.core k2.1 hC (get_push _ _))
theorem keyWs_all {P:List Nat→Prop} (h1:P [105,110,116]) (h2:P [99,104,97,114]) (h3:P [97,112,112]) (h4:P [108,97,109]) (h5:P [108,101,116]) (h6:P [108,101,116,114,101,99]) (h7:P [99,97,115,101]) (h8:P [111,102]) (h9:P [105,115])
  (h10:P [101,108,115,101]) (h11:P [99,111,110]) (h12:P [112,114,105,109]) (h13:P [112,114,111,103,114,97,109]):∀ w,w∈keyWs→P w:=by
 intro w h
 simp only [keyWs,List.mem_cons,List.not_mem_nil,or_false] at h
 rcases h with rfl | rfl | rfl | rfl | rfl | rfl | rfl | rfl | rfl | rfl | rfl | rfl | rfl<;>assumption
theorem rs_closed (hf:10000≤fuel) {j N0:Nat} {q:Pos} {vs:List AV} (m:is.length≤9000) (r:R q) (O:Opn σ i j q vs) (X:RepIs R n σ vs is) (hi:N0≤i) (hj:N0≤j) (hn:N0≤n) (hs:N0≤σ.length) (hw:∀ w r,is = .key w :: r→w∈keyWs):
  Rs R σ (callF tb0 fuel (d + 7) 672 [.obj i]) σ (kd is).isSome (Clo R N0 is):=by
 rw [den_672]
 have L:Ls R n σ i is:=⟨m,r,O,X⟩
 have ka:Kp NoP σ (σ++[.list []]):=.app _ _
 have key:∀ v it,vs[0]? = some v→RepI R n σ v it→((((seqA [(((attrA tb0 (.obj i) (nm "items")))>>=λ v3=>(subA v3 (.int 0))),(pure (.str [107,101,121]))]>>=λ vs4=>(callF tb0 fuel (d + 6) 580 vs4)))>>=λ v5=>(truthA v5))>>=λ b=>pure !b) (σ++[.list []])=some (.ok (!it.isKey),σ++[.list []]):=λ v it hv x=>
  run_not (run_tt (run_seq ((O.no ka).part hv rfl) (run_seq (σ₁:=σ++[.list []]) (v:=.str sKey) rfl (run_nil ((run_isw (x.no ka) sKey).trans (by rw [wordIs_key]))))))
 have asList:∀ σ':AH,Kp NoP σ σ'→RepI R N0 σ' (.obj i) (.list is):=λ σ' k=>.list hi hj m r (O.no k) ((X.no k).move (λ zz r=>r) hn λ zz zz zz e=>e)
 cases X with
 | nil=>
  exact .good rfl (.obj i) _ (run_bind (run_or (a:=true) (b:=true) L.full λ h=>nomatch h) rfl) ka ⟨_,rfl,asList _ ka⟩
 | @cons v vs it is x y=>
  have hkey:=key v it rfl x
  have hfull:((attrA tb0 (.obj i) (nm "items"))>>=λ v16=>(newL [])>>=λ v17=>(cmpA .Eq v16 v17)) σ=some (.ok false,σ++[.list []]):=by
   have:=L.full
   rw [show decide (0 < (it :: is).length)=true from decide_eq_true (Nat.succ_pos _)] at this
   exact this
  cases hk:it.isKey with
  | false=>
   rw [hk] at hkey
   have e:kd (it :: is)=some (.list (it :: is)):=by cases it<;>first | rfl | cases hk
   exact .good (by rw [e];rfl) (.obj i) _ (run_bind (run_or (a:=false) (b:=true) hfull λ zz=>run_or1 hkey) rfl) ka ⟨_,e,asList _ ka⟩
  | true=>
   rw [hk] at hkey
   cases x with
   | @key iw w p a h=>
    replace hw:=hw w _ rfl
    have L1:=L.no ka
    have h1:(σ++[AO.list []])[iw]? = some (oWord sKey (.str w) p):=ka.2 _ _ (λ h=>h) h
    have lN:N0≤(σ++[AO.list []]).length:=Nat.le_trans hs ka.1
    have O1:=O.no ka
    clear key
    refine Rs.run (v:=false) (σ₁:=σ++[.list []]) (run_or (a:=false) (b:=false) hfull λ zz=>run_or1 hkey) (Rs.run (run_bind (O1.part (k:=0) rfl rfl) (word_val h1)) ?_)
    generalize (σ++[AO.list []])=σ₁ at ka L1 h1 lN
    clear y hs hn hj hi O m h r O1 h1 hfull hkey asList L p vs q j hk
    revert hw L1
    revert w
    refine no_implicit_lambda% (keyWs_all ?_ ?_ ?_ ?_ ?_ ?_ ?_ ?_ ?_ ?_ ?_ ?_ ?_)
    ·exact λ L1=>Rs.eq (m':=callF tb0 fuel (d + 6) 632 [.obj i,.str sInt]) (by kernel_rfl) ((Rs.kd (it:=.lit) rfl lN (rs_int L1)).base ka)
    ·exact λ L1=>Rs.eq (m':=callF tb0 fuel (d + 6) 632 [.obj i,.str sChar]) (by kernel_rfl) ((Rs.kd (it:=.lit) rfl lN (rs_char L1)).base ka)
    ·exact λ L1=>Rs.eq (m':=_) (by kernel_rfl) ((Rs.kd (it:=.core) rfl lN (rs_app (d:=d) hf L1)).base ka)
    ·exact λ L1=>Rs.eq (m':=callF tb0 fuel (d + 6) 646 [.obj i]) (by kernel_rfl) ((Rs.kd (it:=.core) rfl lN (rs_lam hf L1)).base ka)
    ·exact λ L1=>Rs.eq (m':=callF tb0 fuel (d + 6) 639 [.obj i,.bool false]) (by kernel_rfl) ((Rs.kd (it:=.core) rfl lN (rs_let hf false L1)).base ka)
    ·exact λ L1=>Rs.eq (m':=callF tb0 fuel (d + 6) 639 [.obj i,.bool true]) (by kernel_rfl) ((Rs.kd (it:=.core) rfl lN (rs_let hf true L1)).base ka)
    ·exact λ L1=>Rs.eq (m':=callF tb0 fuel (d + 6) 658 [.obj i]) (by kernel_rfl) ((Rs.kd (it:=.core) rfl lN (rs_case hf L1)).base ka)
    ·exact λ L1=>Rs.eq (m':=callF tb0 fuel (d + 6) 653 [.obj i,.str sOf]) (by kernel_rfl) ((Rs.kd (it:=.way) rfl lN (rs_of hf L1)).base ka)
    ·exact λ L1=>Rs.eq (m':=callF tb0 fuel (d + 6) 653 [.obj i,.str sIs]) (by kernel_rfl) ((Rs.kd (it:=.way) rfl lN (rs_is L1)).base ka)
    ·exact λ L1=>Rs.eq (m':=_) (by kernel_rfl) ((Rs.kd (it:=.els) rfl lN (rs_else (d:=d) (fuel:=fuel) L1)).base ka)
    ·exact λ L1=>Rs.eq (m':=_) (by kernel_rfl) ((Rs.kd (it:=.core) rfl lN (rs_con (d:=d) hf L1 (C:=322) (by decide) λ σ a b=>⟨_,new_con⟩)).base ka)
    ·exact λ L1=>Rs.eq (m':=_) (by kernel_rfl) ((Rs.kd (it:=.core) rfl lN (rs_con (d:=d) hf L1 (C:=362) (by decide) λ σ a b=>⟨_,new_prim⟩)).base ka)
    ·exact λ L1=>Rs.eq (m':=callF tb0 fuel (d + 6) 665 [.obj i]) (by kernel_rfl) ((Rs.kd (it:=.prog) rfl lN (rs_prog hf L1)).base ka)
   | _=>cases hk
end
section
variable {σ σ' σ₀:AH} {fuel d sc:Nat}
noncomputable def oSc (T:List Nat) (a l b:Int):AO:=.inst 562 [(nm "text",.str T),(nm "at",.int a),(nm "line",.int l),(nm "begun",.int b)]
noncomputable def oScan (T p:List Nat):AO:=oSc T p.length (ps p).1 ((p.length:Int) + 1 - (ps p).2)
section
variable {T:List Nat} {a l b:Int}
theorem sc_text (h:σ[sc]? = some (oSc T a l b)):attrA tb0 (.obj sc) (nm "text") σ=some (.ok (.str T),σ):=run_attr h (by kernel_rfl) (by kernel_rfl)
theorem sc_at (h:σ[sc]? = some (oSc T a l b)):attrA tb0 (.obj sc) (nm "at") σ=some (.ok (.int a),σ):=run_attr h (by kernel_rfl) (by kernel_rfl)
theorem sc_line (h:σ[sc]? = some (oSc T a l b)):attrA tb0 (.obj sc) (nm "line") σ=some (.ok (.int l),σ):=run_attr h (by kernel_rfl) (by kernel_rfl)
theorem sc_begun (h:σ[sc]? = some (oSc T a l b)):attrA tb0 (.obj sc) (nm "begun") σ=some (.ok (.int b),σ):=run_attr h (by kernel_rfl) (by kernel_rfl)
theorem sc_set_at {v:Int} (h:σ[sc]? = some (oSc T a l b)):setAttrA tb0 (.obj sc) (nm "at") (.int v) σ=some (.ok (),σ.set sc (oSc T v l b)):=run_setAttr h (by kernel_rfl) (by kernel_rfl)
theorem sc_set_line {v:Int} (h:σ[sc]? = some (oSc T a l b)):setAttrA tb0 (.obj sc) (nm "line") (.int v) σ=some (.ok (),σ.set sc (oSc T a v b)):=run_setAttr h (by kernel_rfl) (by kernel_rfl)
theorem sc_set_begun {v:Int} (h:σ[sc]? = some (oSc T a l b)):setAttrA tb0 (.obj sc) (nm "begun") (.int v) σ=some (.ok (),σ.set sc (oSc T a l v)):=run_setAttr h (by kernel_rfl) (by kernel_rfl)
theorem sc_meth {x:Str} {f:Nat} {c:CC} {vs:List AV} (h:σ[sc]? = some (oSc T a l b)) (hx:(kvGet [(nm "text",.str T),(nm "at",.int a),(nm "line",.int l),(nm "begun",.int b)] x).isNone=true) (hm:tb0.meth 562 x=some f):(methA tb0 (.obj sc) x>>=λ m=>callM ⟨tb0,c,fuel⟩ m (.obj sc) vs) σ=c f (.obj sc :: vs) σ:=by
 refine run_bind (v:=.own f) (run_bind (run_getO h) ?_) rfl
 show (if (kvGet [(nm "text",.str T),(nm "at",.int a),(nm "line",.int l),(nm "begun",.int b)] x).isNone=true then PM.ofOpt ((tb0.meth 562 x).map .own) else PM.fail:PM Mt) σ=_
 rw [if_pos hx,hm];rfl
end
theorem set_same {o:AO} {i:Nat} (h:σ[i]? = some o):σ.set i o=σ:=by
 obtain⟨hl,rfl⟩:=List.getElem?_eq_some_iff.mp h
 exact List.set_getElem_self hl
theorem sc_place {T p:List Nat} (h:σ[sc]? = some (oScan T p)):callF tb0 fuel (d + 1) 531 [.obj sc] σ=some (.ok (pT (ps p)),σ):=by
 rw [den_531]
 refine run_seq (sc_line h) (run_seq (v:=.int (ps p).2) (run_bind (run_bind (sc_at h) (run_bind (sc_begun h) rfl)) ?_) rfl)
 show some (Except.ok (AV.int ((p.length:Int) - ((p.length:Int) + 1 - (ps p).2) + 1)),σ)=_
 rw [show (p.length:Int) - ((p.length:Int) + 1 - (ps p).2) + 1=(ps p).2 by lia]
theorem run_sign {T p r:List Nat} {c:Nat} (hT:T=p++c :: r):subA (.str T) (.int p.length) σ=some (.ok (.str [c]),σ):=by
 subst hT
 show PM.ofOpt (((placeOf (p.length:Int) (p++c :: r).length).bind λ j=>(p++c :: r)[j]?).map λ c=>AV.str [c]) σ=_
 rw [place_nat (by simp)]
 show PM.ofOpt (((p++c :: r)[p.length]?).map λ c=>AV.str [c]) σ=_
 rw [List.getElem?_append_right (Nat.le_refl _),Nat.sub_self];rfl
theorem lt_len {T p r:List Nat} {c:Nat} (hT:T=p++c :: r):cmpV σ .Lt (.int p.length) (.int T.length)=some true:=by
 subst hT
 exact congrArg some (decide_eq_true (by simp;lia))
theorem lt_end {p:List Nat}:cmpV σ .Lt (.int p.length) (.int p.length)=some false:=congrArg some (decide_eq_false (by lia))
noncomputable def blanks:List Nat:=[32,9,13,10]
noncomputable def endsL:List Nat:=[32,9,13,10,40,41,124]
theorem scan_nl {T p:List Nat}:oSc T (p.length + 1) ((ps p).1 + 1) (p.length + 1)=oScan T (p++[10]):=by
 unfold oScan
 refine rwg (ps_app ..) ?_
 show _=oSc T ((p++[10]).length:Int) (((ps p).1 + 1:Nat):Int) (((p++[10]).length:Int) + 1 - (1:Nat))
 refine rwg (List.length_append ..) ?_
 congr 1
 show (p.length:Int) + 1=((p.length + 1:Nat):Int) + 1 - 1
 lia
theorem scan_c {T p:List Nat} {c:Nat} (hc:c≠10):oSc T (p.length + 1) (ps p).1 ((p.length:Int) + 1 - (ps p).2)=oScan T (p++[c]):=by
 have e:ps (p++[c])=((ps p).1,(ps p).2 + 1):=by rw [ps_app];exact psF_one _ [c] λ x hx=>by cases hx with | head=>exact hc | tail zz h=>cases h
 unfold oScan
 refine rwg (e ..) ?_
 refine rwg (List.length_append ..) ?_
 congr 1
 show (p.length:Int) + 1 - (ps p).2=((p.length + 1:Nat):Int) + 1 - ((ps p).2 + 1:Nat)
 lia
noncomputable def lcS (sc:Nat):Lc:=[(nm "self",.obj sc)]
theorem lk_self {r:Lc}:lk ((nm "self",.obj sc) :: r) (nm "self") σ=some (.ok (.obj sc),σ):=run_lk (if_pos rfl)
theorem run_scan {T p:List Nat} {r:Lc} {q:PM Bool} (h:σ[sc]? = some (oScan T p)) {b:Bool} (hb:cmpV σ .Lt (.int p.length) (.int T.length)=some b) {b':Bool} (hq:b=true→q σ=some (.ok b',σ)):
  boolT .And [((((lk ((nm "self",.obj sc) :: r) (nm "self"))>>=λ v3=>(attrA tb0 v3 (nm "at"))))>>=λ v4=>(((seqA [((lk ((nm "self",.obj sc) :: r) (nm "self"))>>=λ v5=>(attrA tb0 v5 (nm "text")))]>>=λ vs6=>(callB tb0 .len vs6)))>>=λ v7=>(cmpA .Lt v4 v7))),q] σ=some (.ok (b && b'),σ):=
 run_and (run_bind (run_bind lk_self (sc_at h)) (run_bind (run_seq (run_bind lk_self (sc_text h)) rfl) (run_cmp hb))) λ e=>run_and1 (hq e)
theorem run_peek {T p r:List Nat} {o:Lc} {c:Nat} (h:σ[sc]? = some (oScan T p)) (hT:T=p++c :: r):((((lk ((nm "self",.obj sc) :: o) (nm "self"))>>=λ v8=>(attrA tb0 v8 (nm "text"))))>>=λ v9=>((((lk ((nm "self",.obj sc) :: o) (nm "self"))>>=λ v10=>(attrA tb0 v10 (nm "at"))))>>=λ v11=>(subA v9 v11))) σ=some (.ok (.str [c]),σ):=
 run_bind (run_bind lk_self (sc_text h)) (run_bind (run_bind lk_self (sc_at h)) (run_sign hT))
theorem loop_end {test:Lc→PM Bool} {body:Lc→(Lc→PM AV)→PM AV} {k:Lc→PM AV} {m:Nat} {lc:Lc} (h:test lc σ=some (.ok false,σ)):loopN test body k (m + 1) lc σ=k lc σ:=run_bind h rfl
theorem loop_step {test:Lc→PM Bool} {body:Lc→(Lc→PM AV)→PM AV} {k:Lc→PM AV} {m:Nat} {lc:Lc} (h:test lc σ=some (.ok true,σ)):loopN test body k (m + 1) lc σ=body lc (λ lc'=>loopN test body k m lc') σ:=run_bind h rfl
theorem run_up {α:Type} {T p:List Nat} {o:Lc} {k:PM α} {x:Option (Except AV α×AH)} (h:σ[sc]? = some (oScan T p)) (hk:k (σ.set sc (oSc T (p.length + 1) (ps p).1 ((p.length:Int) + 1 - (ps p).2)))=x):
  (((((lk ((nm "self",.obj sc) :: o) (nm "self"))>>=λ v13=>(attrA tb0 v13 (nm "at"))))>>=λ v14=>(binA .Add v14 (.int 1)))>>=λ x15=>((lk ((nm "self",.obj sc) :: o) (nm "self"))>>=λ v16=>(setAttrA tb0 v16 (nm "at") x15>>=λ zz=>k))) σ=x:=
 run_bind (run_bind (run_bind lk_self (sc_at h)) rfl) (run_bind lk_self (run_bind (sc_set_at h) hk))
noncomputable def pbTest:Lc→PM Bool:=(λ lc1=>(boolT .And [((((lk lc1 (nm "self"))>>=λ v3=>(attrA tb0 v3 (nm "at"))))>>=λ v4=>(((seqA [((lk lc1 (nm "self"))>>=λ v5=>(attrA tb0 v5 (nm "text")))]>>=λ vs6=>(callB tb0 .len vs6)))>>=λ v7=>(cmpA .Lt v4 v7))),((((((lk lc1 (nm "self"))>>=λ v8=>(attrA tb0 v8 (nm "text"))))>>=λ v9=>((((lk lc1 (nm "self"))>>=λ v10=>(attrA tb0 v10 (nm "at"))))>>=λ v11=>(subA v9 v11))))>>=λ v12=>(cmpA .In v12 (.str [32,9,13,10])))]))
noncomputable def pbBody:Lc→(Lc→PM AV)→PM AV:=(λ lc1 kk2=>((((((lk lc1 (nm "self"))>>=λ v13=>(attrA tb0 v13 (nm "at"))))>>=λ v14=>(binA .Add v14 (.int 1))))>>=λ x15=>((lk lc1 (nm "self"))>>=λ v16=>(setAttrA tb0 v16 (nm "at") x15>>=λ zz=>(((((((lk lc1 (nm "self"))>>=λ v17=>(attrA tb0 v17 (nm "text"))))>>=λ v18=>((((((lk lc1 (nm "self"))>>=λ v19=>(attrA tb0 v19 (nm "at"))))>>=λ v20=>(binA .Sub v20 (.int 1))))>>=λ v21=>(subA v18 v21))))>>=λ v22=>(cmpA .Eq v22 (.str [10])))>>=λ tc=>match tc with
 | true=>((((((lk lc1 (nm "self"))>>=λ v23=>(attrA tb0 v23 (nm "line"))))>>=λ v24=>(binA .Add v24 (.int 1))))>>=λ x25=>((lk lc1 (nm "self"))>>=λ v26=>(setAttrA tb0 v26 (nm "line") x25>>=λ zz=>((((lk lc1 (nm "self"))>>=λ v27=>(attrA tb0 v27 (nm "at"))))>>=λ x28=>((lk lc1 (nm "self"))>>=λ v29=>(setAttrA tb0 v29 (nm "begun") x28>>=λ zz=>(kk2 lc1)))))))
 | false=>(kk2 lc1))))))
theorem run_pbBody {T p r:List Nat} {c:Nat} {k:Lc→PM AV} (h:σ[sc]? = some (oScan T p)) (hT:T=p++c :: r):pbBody (lcS sc) k σ=k (lcS sc) (σ.set sc (oScan T (p++[c]))):=by
 refine run_up h ?_
 have h1:(σ.set sc (oSc T (p.length + 1) (ps p).1 ((p.length:Int) + 1 - (ps p).2)))[sc]? = _:=get_set_self h
 generalize hs:σ.set sc (oSc T (p.length + 1) (ps p).1 ((p.length:Int) + 1 - (ps p).2))=σ₁ at h1
 have ht:((((lk (lcS sc) (nm "self"))>>=λ v17=>(attrA tb0 v17 (nm "text"))))>>=λ v18=>((((((lk (lcS sc) (nm "self"))>>=λ v19=>(attrA tb0 v19 (nm "at"))))>>=λ v20=>(binA .Sub v20 (.int 1))))>>=λ v21=>(subA v18 v21))) σ₁=some (.ok (.str [c]),σ₁):=by
  refine run_bind (run_bind lk_self (sc_text h1)) (run_bind (run_bind (run_bind lk_self (sc_at h1)) (show binA .Sub (.int ((p.length:Int) + 1)) (.int 1) σ₁=some (.ok (.int p.length),σ₁) from ?_)) (run_sign hT))
  show some (Except.ok (AV.int ((p.length:Int) + 1 - 1)),σ₁)=_
  rw [show (p.length:Int) + 1 - 1=p.length by lia]
 refine run_bind (run_bind ht (run_cmp eq_str)) ?_
 by_cases hc:c=10
 ·clear hT h ht r
  subst hc
  refine rwg (decide_eq_true rfl ..) ?_
  refine run_bind (run_bind (run_bind lk_self (sc_line h1)) rfl) (run_bind lk_self (run_bind (sc_set_line h1) ?_))
  have h2:(σ₁.set sc (oSc T (p.length + 1) ((ps p).1 + 1) ((p.length:Int) + 1 - (ps p).2)))[sc]? = _:=get_set_self h1
  refine run_bind (run_bind lk_self (sc_at h2)) (run_bind lk_self (run_bind (sc_set_begun h2) ?_))
  show k (lcS sc) _=_
  refine rwb (hs ..) ?_
  refine rwg (List.set_set ..) ?_
  refine rwg (List.set_set ..) ?_
  refine rwg (scan_nl ..) rfl
 ·rw [decide_eq_false (λ e=>hc (by cases e;rfl))]
  show k (lcS sc) _=_
  refine rwb (hs ..) ?_
  refine rwg (scan_c hc ..) rfl
theorem run_blanks {T rest:List Nat} {k:Lc→PM AV} (hr:∀ c r,rest=c :: r→c ∉ blanks):∀ (g p:List Nat) (n:Nat) (σ:AH),T=p++(g++rest)→(∀ c∈g,c∈blanks)→σ[sc]? = some (oScan T p)→g.length < n→loopN pbTest pbBody k n (lcS sc) σ=k (lcS sc) (σ.set sc (oScan T (p++g)))
 | [],p,n + 1,σ,hT,hg,h,hn=>by
  refine rwg (List.append_nil ..) ?_
  refine rwg (set_same h ..) ?_
  cases rest with
  | nil=>
   have e:T=p:=hT.trans (List.append_nil p)
   exact loop_end (run_scan h (b:=false) (b':=true) (by rw [e];exact lt_end) λ e=>nomatch e)
  | cons c r=>exact loop_end (run_scan h (b:=true) (b':=false) (lt_len hT) λ zz=>run_bind (run_peek h hT) (run_cmp (congrArg some (decide_eq_false (hr c r rfl)))))
 | c :: g,p,n + 1,σ,hT,hg,h,hn=>by
  refine Eq.trans (loop_step (run_scan h (b:=true) (b':=true) (lt_len hT) λ zz=>run_bind (run_peek h hT) (run_cmp (congrArg some (decide_eq_true (hg c (.head _))))))) ((run_pbBody h hT).trans ?_)
  refine (run_blanks hr g (p++[c]) n _ (by rw [hT,List.append_assoc];rfl) (λ c hc=>hg c (.tail _ hc)) (get_set_self h) (Nat.lt_of_succ_lt_succ hn)).trans ?_
  rw [List.set_set,List.append_assoc];rfl
theorem sc_blanks {T p g rest:List Nat} (hr:∀ c r,rest=c :: r→c ∉ blanks) (hT:T=p++(g++rest)) (hg:∀ c∈g,c∈blanks) (h:σ[sc]? = some (oScan T p)) (hn:g.length < fuel):callF tb0 fuel (d + 1) 545 [.obj sc] σ=some (.ok .none,σ.set sc (oScan T (p++g))):=by
 refine rwg (den_545 ..) ?_
 exact run_blanks (k:=λ zz=>pure .none) hr g p fuel σ hT hg h hn
end
section
variable {σ σ' σ₀:AH} {fuel d sc:Nat}
noncomputable def figs:List Nat:=[48,49,50,51,52,53,54,55,56,57]
noncomputable def figOf (w:List Nat):List Nat:=match decide (w.take 1=[45]) with
 | true=>w.drop 1
 | false=>w
noncomputable def numB (w:List Nat):Bool:=!decide (figOf w=[]) && (figOf w).all λ c=>decide (c∈figs)
theorem goN_mapS {body:AV→PM (List AV)} {src:Src} {l:List AV} (g:AV→AV) (hn:∀ k,nextA σ src k=some l[k]?) (hb:∀ v∈l,body v σ=some (.ok [g v],σ)) (hl:l.length≤9000):
  ∀ (m idx N:Nat),l.length=idx + m→m < N→goN body src N idx σ=some (.ok ((l.drop idx).map g),σ)
 | 0,idx,N + 1,h1,h2=>by
  rw [List.drop_eq_nil_of_le (by lia)]
  exact goN_end (by rw [hn,List.getElem?_eq_none (by lia)])
 | m + 1,idx,N + 1,h1,h2=>by
  rw [List.drop_eq_getElem_cons (by lia)]
  exact (goN_step (by rw [hn,(List.getElem?_eq_getElem (by lia))]) (by unfold maxLen;lia)).trans (run_bind (hb _ (List.getElem_mem _)) (run_bind (goN_mapS g hn hb hl m (idx + 1) N (by lia) (by lia)) rfl))
noncomputable def figV:AV→AV
 | .str [c]=>.bool (decide (c∈figs))
 | v=>v
theorem bools_str:∀ s:List Nat,boolsOf ((s.map λ c=>AV.str [c]).map figV)=some (s.map λ c=>decide (c∈figs))
 | []=>rfl
 | c :: r=>by
  show (boolsOf ((r.map λ c=>AV.str [c]).map figV)).map (decide (c∈figs) :: ·)=_
  rw [bools_str r];rfl
theorem all_idN (p:Nat→Bool):∀ is:List Nat,(is.map p).all id=is.all p
 | []=>rfl
 | it :: r=>congrArg (p it && ·) (all_idN p r)
theorem run_num {w:List Nat} (hl:w.length≤9000) (hf:10000≤fuel):∃ σ',callF tb0 fuel (d + 1) 510 [.str w] σ=some (.ok (.bool (numB w)),σ')∧Kp NoP σ σ':=by
 refine rwg (den_510 ..) ?_
 have h1:(((sliceA (.str w) .none (.int 1))>>=λ v1=>(cmpA .Eq v1 (.str [45])))>>=λ tc=>match tc with | true=>(sliceA (.str w) (.int 1) .none) | false=>(pure (.str w))) σ=some (.ok (.str (figOf w)),σ):=by
  have e1:sliceA (.str w) .none (.int 1) σ=some (.ok (.str (w.take 1)),σ):=by
   show (PM.ofOpt (sliceL w .none (.int 1))>>=λ r=>pure (AV.str r)) σ=_
   have:sliceL w .none (.int 1)=some (w.take 1):=by
    show some ((w.take (min 1 w.length)).drop 0)=_
    rw [← List.take_eq_take_min];rfl
   rw [this];rfl
  have e2:sliceA (.str w) (.int 1) .none σ=some (.ok (.str (w.drop 1)),σ):=by
   show (PM.ofOpt (sliceL w (.int 1) .none)>>=λ r=>pure (AV.str r)) σ=_
   have e:sliceL w (.int 1) .none=some (w.drop 1):=slice_from w 1 (by lia) rfl
   rw [e];rfl
  refine run_bind (run_bind e1 (run_cmp eq_str)) ?_
  unfold figOf
  cases decide (w.take 1=[45])
  ·rfl
  ·exact e2
 have hn:cmpV σ .NotEq (.str (figOf w)) (.str [])=some (!decide (figOf w=[])):=rfl
 have hlf:(figOf w).length≤9000:=by
  unfold figOf;split
  ·rw [List.length_drop];omega
  ·exact hl
 unfold numB
 cases hd:decide (figOf w=[]) with
 | true=>exact⟨σ,run_bind h1 (run_boolA (b:=false) (run_bind (run_cmp (hn.trans (congrArg (some <| !·) hd))) rfl) (λ zz=>rfl) λ h=>nomatch h),.refl _⟩
 | false=>
  refine⟨σ++[.list (((figOf w).map λ c=>AV.str [c]).map figV)],run_bind h1 (run_boolA (b:=true) (run_bind (run_cmp (hn.trans (congrArg (some <| !·) hd))) rfl) (λ h=>nomatch h) ?_),.app _ _⟩
  intro _
  refine run_seq (run_bind (v:=.items ((figOf w).map λ c=>.str [c])) rfl (run_bind (goN_mapS figV (λ k=>rfl) (λ v hv=>?_) (by rw [List.length_map];exact hlf) (figOf w).length 0 fuel (by rw [List.length_map];lia) (by lia)) (run_newL (by rw [List.length_map,List.length_drop,List.length_map];unfold maxLen;lia)))) (run_nil (run_bind (run_lsO (get_push _ _)) ?_))
  ·refine ex12 (List.mem_map.mp hv) λ c zz rr2=>?_
   subst rr2
   rfl
  ·show (PM.ofOpt (boolsOf (((figOf w).map λ c=>AV.str [c]).map figV))>>=λ bs=>pure (AV.bool (bs.all id))) _=_
   refine rwg (bools_str ..) ?_
   show some (Except.ok (AV.bool (((figOf w).map λ c=>decide (c∈figs)).all id)),_)=_
   rw [all_idN];rfl
end
section
variable {σ σ' σ₀:AH} {fuel d sc:Nat}
noncomputable def wdTest:Lc→PM Bool:=(λ lc15=>(boolT .And [((((lk lc15 (nm "self"))>>=λ v17=>(attrA tb0 v17 (nm "at"))))>>=λ v18=>(((seqA [((lk lc15 (nm "self"))>>=λ v19=>(attrA tb0 v19 (nm "text")))]>>=λ vs20=>(callB tb0 .len vs20)))>>=λ v21=>(cmpA .Lt v18 v21))),((((((lk lc15 (nm "self"))>>=λ v22=>(attrA tb0 v22 (nm "text"))))>>=λ v23=>((((lk lc15 (nm "self"))>>=λ v24=>(attrA tb0 v24 (nm "at"))))>>=λ v25=>(subA v23 v25))))>>=λ v26=>(cmpA .NotIn v26 (.str [32,9,13,10,40,41,124])))]))
noncomputable def wdBody:Lc→(Lc→PM AV)→PM AV:=(λ lc15 kk16=>((((((lk lc15 (nm "self"))>>=λ v27=>(attrA tb0 v27 (nm "at"))))>>=λ v28=>(binA .Add v28 (.int 1))))>>=λ x29=>((lk lc15 (nm "self"))>>=λ v30=>(setAttrA tb0 v30 (nm "at") x29>>=λ zz=>(kk16 lc15)))))
noncomputable def wdKont (c:CC):Lc→PM AV:=(λ lc15=>((((((lk lc15 (nm "self"))>>=λ v32=>(attrA tb0 v32 (nm "text"))))>>=λ v33=>((lk lc15 (nm "begin"))>>=λ v34=>((((lk lc15 (nm "self"))>>=λ v31=>(attrA tb0 v31 (nm "at"))))>>=λ v35=>(sliceA v33 v34 v35)))))>>=λ x36=>((((seqA [lk (kvSet lc15 (nm "text") x36) (nm "text")]>>=λ vs37=>(c 510 vs37)))>>=λ v38=>(truthA v38))>>=λ tc=>match tc with
 | true=>((((seqA [lk (kvSet lc15 (nm "text") x36) (nm "text")]>>=λ vs39=>(callB tb0 .len vs39)))>>=λ v40=>(cmpA .Gt v40 (.int 4000)))>>=λ tc=>match tc with
 | true=>(seqA [(pure (.str [97,32,110,117,109,98,101,114,32,104,97,115,32,116,111,111,32,109,97,110,121,32,102,105,103,117,114,101,115])),lk (kvSet lc15 (nm "text") x36) (nm "place")]>>=λ vs41=>(raiseA tb0 (.val 397) vs41))
 | false=>(seqA [(pure (.str [110,117,109,98,101,114])),(seqA [lk (kvSet lc15 (nm "text") x36) (nm "text")]>>=λ vs42=>(callB tb0 .int vs42)),lk (kvSet lc15 (nm "text") x36) (nm "place")]>>=λ vs43=>(c 417 vs43)))
 | false=>(seqA [(((lk (kvSet lc15 (nm "text") x36) (nm "text"))>>=λ v44=>(cmpA .In v44 kKEYS))>>=λ tc=>match tc with | true=>(pure (.str [107,101,121])) | false=>(pure (.str [110,97,109,101]))),lk (kvSet lc15 (nm "text") x36) (nm "text"),lk (kvSet lc15 (nm "text") x36) (nm "place")]>>=λ vs45=>(c 417 vs45)))))
noncomputable def wdRest (c:CC) (fuel:Nat) (aC x3:AV):PM AV:=((((attrA tb0 aC (nm "at")))>>=λ v4=>(((seqA [(attrA tb0 aC (nm "text"))]>>=λ vs5=>(callB tb0 .len vs5)))>>=λ v6=>(cmpA .GtE v4 v6)))>>=λ tc=>match tc with
 | true=>(c 417 [(.str [101,110,100]),(.str []),x3])
 | false=>(((((attrA tb0 aC (nm "text")))>>=λ v7=>(((attrA tb0 aC (nm "at")))>>=λ v8=>(subA v7 v8))))>>=λ x9=>((cmpA .In x9 (.str [40,41]))>>=λ tc=>match tc with
 | true=>(((((attrA tb0 aC (nm "at")))>>=λ v10=>(binA .Add v10 (.int 1))))>>=λ x11=>(setAttrA tb0 aC (nm "at") x11>>=λ zz=>(c 417 [x9,x9,x3])))
 | false=>((cmpA .Eq x9 (.str [124]))>>=λ tc=>match tc with
 | true=>(seqA [(pure (.str [110,97,109,101])),(methA tb0 aC (nm "quoted")>>=λ m12=>callM ⟨tb0,c,fuel⟩ m12 aC []),(pure x3)]>>=λ vs13=>(c 417 vs13))
 | false=>(((attrA tb0 aC (nm "at")))>>=λ x14=>(loopN wdTest
 wdBody
 (wdKont c) fuel [(nm "self",aC),(nm "place",x3),(nm "sign",x9),(nm "begin",x14)]))))))
theorem run_wd {T rest:List Nat} {o:Lc} {k:Lc→PM AV} (hr:∀ c r,rest=c :: r→c∈endsL):∀ (w p:List Nat) (n:Nat) (σ:AH),T=p++(w++rest)→(∀ c∈w,c ∉ endsL)→σ[sc]? = some (oScan T p)→w.length < n→loopN wdTest wdBody k n ((nm "self",.obj sc) :: o) σ=k ((nm "self",.obj sc) :: o) (σ.set sc (oScan T (p++w)))
 | [],p,n + 1,σ,hT,hg,h,hn=>by
  refine rwg (List.append_nil ..) ?_
  refine rwg (set_same h ..) ?_
  cases rest with
  | nil=>
   have e:T=p:=hT.trans (List.append_nil p)
   exact loop_end (run_scan h (b:=false) (b':=true) (by rw [e];exact lt_end) λ e=>nomatch e)
  | cons c r=>exact loop_end (run_scan h (b:=true) (b':=false) (lt_len hT) λ zz=>run_bind (run_peek h hT) (run_cmp (congrArg (λ b=>some !b) (decide_eq_true (hr c r rfl)))))
 | c :: g,p,n + 1,σ,hT,hg,h,hn=>by
  have hc:=hg c (.head _)
  refine Eq.trans (loop_step (run_scan h (b:=true) (b':=true) (lt_len hT) λ zz=>run_bind (run_peek h hT) (run_cmp (congrArg (λ b=>some !b) (decide_eq_false hc))))) ((run_up h rfl).trans ?_)
  refine rwg (scan_c (λ e=>hc (by rw [e];decide):c≠10) ..) ?_
  refine (run_wd hr g (p++[c]) n _ (by rw [hT,List.append_assoc];rfl) (λ c hc=>hg c (.tail _ hc)) (get_set_self h) (Nat.lt_of_succ_lt_succ hn)).trans ?_
  rw [List.set_set,List.append_assoc];rfl
inductive WR (fuel d sc:Nat) (T p':List Nat) (o:AO) (σ:AH):Prop
 | mk {wi:Nat} {σ':AH} (e:callF tb0 fuel (d + 3) 552 [.obj sc] σ=some (.ok (.obj wi),σ')) (a:σ.length≤wi) (h:σ'[wi]? = some o) (s:σ'[sc]? = some (oScan T p')) (k:Kp (At1 sc) σ σ')
theorem WR.of {T p g rest p':List Nat} {o:AO} (hr:∀ c r,rest=c :: r→c ∉ blanks) (hT:T=p++(g++rest)) (hg:∀ c∈g,c∈blanks) (h:σ[sc]? = some (oScan T p)) (hn:g.length < fuel)
  (x:∀ σ₁,σ₁[sc]? = some (oScan T (p++g))→∃ (wi:Nat) (σ':AH),wdRest (callF tb0 fuel (d + 2)) fuel (.obj sc) (pT (ps (p++g))) σ₁=some (.ok (.obj wi),σ')∧σ₁.length≤wi∧σ'[wi]? = some o∧σ'[sc]? = some (oScan T p')∧Kp (At1 sc) σ₁ σ'):WR fuel d sc T p' o σ:=by
 refine ex25 (x _ (get_set_self h)) λ wi σ' e a b c k=>?_
 refine⟨?_,Nat.le_trans (by rw [List.length_set];exact Nat.le_refl _) a,b,c,(Kp.set _ rfl:Kp (At1 sc) σ _).trans k⟩
 refine rwg (den_552 ..) ?_
 exact run_bind ((sc_meth h rfl rfl).trans (sc_blanks hr hT hg h hn)) (run_bind ((sc_meth (get_set_self h) rfl rfl).trans (sc_place (get_set_self h))) e)
noncomputable def sEnd:List Nat:=[101,110,100]
theorem word_end {T p g:List Nat} (hT:T=p++g) (hg:∀ c∈g,c∈blanks) (h:σ[sc]? = some (oScan T p)) (hn:g.length < fuel):WR fuel d sc T T (oWord sEnd (.str []) (pT (ps T))) σ:=by
 refine WR.of (rest:=[]) (λ c r e=>nomatch e) (by rw [List.append_nil];exact hT) hg h hn λ σ₁ h1=>?_
 rw [← hT] at h1 ⊢
 exact⟨_,_,run_bind (run_bind (sc_at h1) (run_bind (run_seq (sc_text h1) rfl) (run_cmp (r:=true) (congrArg some (decide_eq_true (Int.le_refl _)))))) new_word,Nat.le_refl _,get_push _ _,getApp h1,.app _ _⟩
theorem ge_cons {T p r:List Nat} {c:Nat} (hT:T=p++c :: r):cmpV σ .GtE (.int p.length) (.int T.length)=some false:=by
 subst hT
 exact congrArg some (decide_eq_false (by simp;lia))
theorem word_bra {T p g r:List Nat} {c:Nat} (hc:c=40∨c=41) (hT:T=p++(g++c :: r)) (hg:∀ c∈g,c∈blanks) (h:σ[sc]? = some (oScan T p)) (hn:g.length < fuel):WR fuel d sc T (p++g++[c]) (oWord [c] (.str [c]) (pT (ps (p++g)))) σ:=by
 refine WR.of (rest:=c :: r) (λ c' r' e=>by cases e;rcases hc with rfl | rfl<;>decide) hT hg h hn λ σ₁ h1=>?_
 have hT':T=(p++g)++c :: r:=by rw [hT,List.append_assoc]
 generalize p++g=q at h1 hT'
 refine⟨_,_,run_bind (run_bind (sc_at h1) (run_bind (run_seq (sc_text h1) rfl) (run_cmp (ge_cons hT')))) (run_bind (run_bind (sc_text h1) (run_bind (sc_at h1) (run_sign hT'))) (run_bind (run_cmp (r:=true) (congrArg some (decide_eq_true (by rcases hc with rfl | rfl<;>decide)))) (run_bind (run_bind (sc_at h1) rfl) (run_bind (sc_set_at h1) new_word)))),Nat.le_of_eq (by rw [List.length_set]),get_push _ _,getApp ((get_set_self h1).trans (congrArg some (scan_c (by rcases hc with rfl | rfl<;>decide)))),(Kp.set _ rfl:Kp (At1 sc) σ₁ _).to _⟩
end
section
variable {σ σ' σ₀:AH} {fuel d sc:Nat}
noncomputable def oTok (w:List Nat) (p:AV):AO:=match itW w with
 | .key zz=>oWord sKey (.str w) p
 | .num n=>oWord sNum (.int n) p
 | _=>oWord sName (.str w) p
theorem inFlat_str (w:List Nat):∀ l:List (List Nat),inFlat (.str w) (l.map .str)=some (decide (w∈l))
 | []=>rfl
 | x :: r=>by
  show (match some (decide (x=w)),inFlat (.str w) (r.map .str) with
   | some p,some q=>some (p || q)
   | zz,zy=>Option.none)=_
  refine rwg (inFlat_str w r ..) ?_
  show some (decide (x=w) || decide (w∈r))=_
  refine rwb (Bool.decide_or ..) ?_
  exact congrArg some (decide_eq_decide.mpr ⟨λ h=>h.elim (λ e=>e▸.head _) (.tail _),λ h=>by cases h with | head=>exact .inl rfl | tail zz h=>exact .inr h⟩)
theorem keys_eq:kKEYS = .tup (keyWs.map .str):=by kernel_rfl
theorem in_keys (w:List Nat):cmpV σ .In (.str w) kKEYS=some (decide (w∈keyWs)):=by
 rw [keys_eq,← inFlat_str]
 match w with
 | []=>rfl
 | [zz]=>rfl
 | _ :: _ :: _=>rfl
noncomputable def plainW (w:List Nat):Bool:=(numB w == (!decide (w∈keyWs) && (lookW intWords w).isSome)) && (w.all (λ c=>!decide (c∈endsL)) && (!decide (w=[]) && decide (w.length≤8)))
theorem slice_mid {T q w rest:List Nat} (hT:T=q++(w++rest)) (hl:T.length≤1000000):sliceA (.str T) (.int q.length) (.int ((q++w).length:Nat)) σ=some (.ok (.str w),σ):=by
 have cut:∀ {a d:Nat},a≤T.length→cutOf T.length d (.int (a:Nat))=some a:=λ {a d} h=>by
  show (if smallI (a:Int)=true then some (if 0≤(a:Int) then min (a:Int).toNat T.length else ((a:Int) + T.length).toNat) else Option.none)=_
  rw [if_pos ((λ h=>by unfold smallI;simp;lia) (by lia)),if_pos (Int.natCast_nonneg a)]
  exact congrArg some (Nat.min_eq_left h)
 have e:sliceL T (.int q.length) (.int ((q++w).length:Nat))=some w:=by
  unfold sliceL
  rw [cut (by rw [hT];simp),cut (by rw [hT];simp)]
  show some ((T.take (q++w).length).drop q.length)=_
  refine rwg (hT ..) ?_
  refine rwb (List.append_assoc ..) ?_
  refine rwg (List.take_left ..) ?_
  refine rwg (List.drop_left ..) rfl
 show (PM.ofOpt (sliceL T (.int q.length) (.int ((q++w).length:Nat)))>>=λ r=>pure (AV.str r)) σ=_
 rw [e];rfl
theorem sc_keep {T q:List Nat} (k:Kp NoP σ σ') (h:σ[sc]? = some (oScan T q)):σ'[sc]? = some (oScan T q):=k.2 _ _ (λ h=>h) h
theorem word_plain {T p g w rest:List Nat} (hf:10000≤fuel) (hw:plainW w=true) (hr:∀ c r,rest=c :: r→c∈endsL) (hT:T=p++(g++(w++rest))) (hl:T.length≤1000000) (hg:∀ c∈g,c∈blanks) (h:σ[sc]? = some (oScan T p)) (hn:g.length < fuel):WR fuel d sc T (p++g++w) (oTok w (pT (ps (p++g)))) σ:=by
 unfold plainW at hw
 obtain⟨w1,hw⟩:=Bool.and_eq_true_iff.mp hw
 obtain⟨w2,hw⟩:=Bool.and_eq_true_iff.mp hw
 obtain⟨w3,w4⟩:=Bool.and_eq_true_iff.mp hw
 have w1:=beq_iff_eq.mp w1
 have w4:=of_decide_eq_true w4
 have hends:∀ c∈w,c ∉ endsL:=λ c hc=>by
  have:=List.all_eq_true.mp w2 c hc
  simpa using this
 obtain⟨c,w',hcw⟩:∃ c w',w=c :: w':=by
  clear hn h hg hl hT hr hf hends w4 w2 hw w1 rest g p T
  cases w with
  | nil=>cases w3
  | cons c w'=>exact⟨c,w',rfl⟩
 have hc:c ∉ endsL:=hends c (hcw▸.head _)
 refine WR.of (rest:=w++rest) (λ c' r' e=>?_) hT hg h hn λ σ₁ h1=>?_
 ·rw [hcw] at e
  cases e
  exact λ hb=>hc (by simp only [blanks,endsL,List.mem_cons,List.not_mem_nil,or_false] at hb ⊢;rcases hb with h | h | h | h<;>simp [h])
 have hT':T=(p++g)++(w++rest):=by rw [hT,List.append_assoc]
 generalize p++g=q at h1 hT'
 have hTc:T=q++c :: (w'++rest):=by rw [hT',hcw];rfl
 have n1:c ∉ [40,41]:=λ hb=>hc (by simp only [endsL,List.mem_cons,List.not_mem_nil,or_false] at hb ⊢;rcases hb with h | h<;>simp [h])
 have n2:¬ ([c]=[124]):=λ e=>hc (by cases e;decide)
 have h2:(σ₁.set sc (oScan T (q++w)))[sc]? = some (oScan T (q++w)):=get_set_self h1
 have k2:Kp (At1 sc) σ₁ (σ₁.set sc (oScan T (q++w))):=.set _ rfl
 have front:∀ x,wdKont (callF tb0 fuel (d + 2)) ((nm "self",.obj sc) :: [(nm "place",pT (ps q)),(nm "sign",.str [c]),(nm "begin",.int q.length)]) (σ₁.set sc (oScan T (q++w)))=x→wdRest (callF tb0 fuel (d + 2)) fuel (.obj sc) (pT (ps q)) σ₁=x:=λ x hx=>
  run_bind (run_bind (sc_at h1) (run_bind (run_seq (sc_text h1) rfl) (run_cmp (ge_cons hTc)))) (run_bind (run_bind (sc_text h1) (run_bind (sc_at h1) (run_sign hTc))) (run_bind (run_cmp (r:=false) (congrArg some (decide_eq_false n1))) (run_bind (run_cmp (eq_str.trans (congrArg some (decide_eq_false n2)))) (run_bind (sc_at h1) ((run_wd hr w q fuel σ₁ hT' hends h1 (by lia)).trans hx)))))
 generalize σ₁.set sc (oScan T (q++w))=σ₂ at h2 k2 front
 have g1:∀ {o:Lc},kvGet (kvSet o (nm "text") (.str w)) (nm "text")=some (.str w):=λ {o}=>kvGet_same _ _ o
 have g2:kvGet (kvSet ((nm "self",.obj sc) :: [(nm "place",pT (ps q)),(nm "sign",.str [c]),(nm "begin",.int q.length)]) (nm "text") (.str w)) (nm "place")=some (pT (ps q)):=by kernel_rfl
 have hsl:((((lk ((nm "self",.obj sc) :: [(nm "place",pT (ps q)),(nm "sign",.str [c]),(nm "begin",.int q.length)]) (nm "self"))>>=λ v32=>(attrA tb0 v32 (nm "text"))))>>=λ v33=>((lk ((nm "self",.obj sc) :: [(nm "place",pT (ps q)),(nm "sign",.str [c]),(nm "begin",.int q.length)]) (nm "begin"))>>=λ v34=>((((lk ((nm "self",.obj sc) :: [(nm "place",pT (ps q)),(nm "sign",.str [c]),(nm "begin",.int q.length)]) (nm "self"))>>=λ v31=>(attrA tb0 v31 (nm "at"))))>>=λ v35=>(sliceA v33 v34 v35)))) σ₂=some (.ok (.str w),σ₂):=
  run_bind (run_bind lk_self (sc_text h2)) (run_bind (run_lk (by kernel_rfl)) (run_bind (run_bind lk_self (sc_at h2)) (slice_mid hT' hl)))
 obtain⟨σ₃,e3,k3⟩:=run_num (σ:=σ₂) (d:=d + 1) (w:=w) (fuel:=fuel) (by lia) hf
 have s3:=sc_keep k3 h2
 have K3:=k2.trans (k3.no:Kp (At1 sc) σ₂ σ₃)
 have fin:∀ o,wdKont (callF tb0 fuel (d + 2)) ((nm "self",.obj sc) :: [(nm "place",pT (ps q)),(nm "sign",.str [c]),(nm "begin",.int q.length)]) σ₂=some (.ok (.obj σ₃.length),σ₃++[o])→o=oTok w (pT (ps q))→∃ (wi:Nat) (σ':AH),wdRest (callF tb0 fuel (d + 2)) fuel (.obj sc) (pT (ps q)) σ₁=some (.ok (.obj wi),σ')∧σ₁.length≤wi∧σ'[wi]? = some (oTok w (pT (ps q)))∧σ'[sc]? = some (oScan T (q++w))∧Kp (At1 sc) σ₁ σ':=λ o e ho=>
  ⟨_,_,front _ e,K3.1,ho▸get_push _ _,getApp s3,K3.to _⟩
 cases hk:decide (w∈keyWs) with
 | true=>
  have eT:oTok w (pT (ps q))=oWord sKey (.str w) (pT (ps q)):=by unfold oTok itW;rw [if_pos (of_decide_eq_true hk)]
  rw [hk] at w1
  rw [w1] at e3
  refine fin _ (run_bind hsl (run_bind (run_tt (run_seq (run_lk g1) (run_nil e3))) (run_seq (run_bind (run_bind (run_lk g1) (run_cmp ((in_keys w).trans (congrArg some hk)))) rfl) (run_seq (run_lk g1) (run_seq (run_lk g2) (run_nil new_word)))))) eT.symm
 | false=>
  rw [hk] at w1
  cases hi:lookW intWords w with
  | none=>
   have eT:oTok w (pT (ps q))=oWord sName (.str w) (pT (ps q)):=by unfold oTok itW;rw [if_neg (of_decide_eq_false hk),hi]
   rw [hi] at w1
   rw [w1] at e3
   exact fin _ (run_bind hsl (run_bind (run_tt (run_seq (run_lk g1) (run_nil e3))) (run_seq (run_bind (run_bind (run_lk g1) (run_cmp ((in_keys w).trans (congrArg some hk)))) rfl) (run_seq (run_lk g1) (run_seq (run_lk g2) (run_nil new_word)))))) eT.symm
  | some n=>
   have eT:oTok w (pT (ps q))=oWord sNum (.int n) (pT (ps q)):=by unfold oTok itW;rw [if_neg (of_decide_eq_false hk),hi]
   rw [hi] at w1
   rw [w1] at e3
   have hint:callB tb0 .int [.str w] σ₃=some (.ok (.int n),σ₃):=by
    show PM.ofOpt ((lookW intWords w).map AV.int) σ₃=_
    rw [hi];rfl
   exact fin _ (run_bind hsl (run_bind (run_tt (run_seq (run_lk g1) (run_nil e3))) (run_bind (run_bind (run_seq (run_lk g1) rfl) (run_cmp (r:=false) (congrArg some (decide_eq_false (by omega))))) (run_seq (σ₁:=σ₃) (v:=.str sNum) rfl (run_seq (run_seq (run_lk g1) (run_nil hint)) (run_seq (run_lk g2) (run_nil new_word))))))) eT.symm
end
section
variable {σ σ' σ₀:AH} {fuel d sc:Nat}
noncomputable def qTest:Lc→PM Bool:=(λ lc4=>(boolT .And [((((lk lc4 (nm "self"))>>=λ v6=>(attrA tb0 v6 (nm "at"))))>>=λ v7=>(((seqA [((lk lc4 (nm "self"))>>=λ v8=>(attrA tb0 v8 (nm "text")))]>>=λ vs9=>(callB tb0 .len vs9)))>>=λ v10=>(cmpA .Lt v7 v10))),((((((lk lc4 (nm "self"))>>=λ v11=>(attrA tb0 v11 (nm "text"))))>>=λ v12=>((((lk lc4 (nm "self"))>>=λ v13=>(attrA tb0 v13 (nm "at"))))>>=λ v14=>(subA v12 v14))))>>=λ v15=>(cmpA .NotEq v15 (.str [124])))]))
noncomputable def qBody (c:CC) (fuel:Nat):Lc→(Lc→PM AV)→PM AV:=(λ lc4 kk5=>(((((((lk lc4 (nm "self"))>>=λ v16=>(attrA tb0 v16 (nm "text"))))>>=λ v17=>((((lk lc4 (nm "self"))>>=λ v18=>(attrA tb0 v18 (nm "at"))))>>=λ v19=>(subA v17 v19))))>>=λ v20=>(cmpA .Eq v20 (.str [92])))>>=λ tc=>match tc with
 | true=>((((((lk lc4 (nm "self"))>>=λ v21=>(attrA tb0 v21 (nm "at"))))>>=λ v22=>(binA .Add v22 (.int 1))))>>=λ x23=>((lk lc4 (nm "self"))>>=λ v24=>(setAttrA tb0 v24 (nm "at") x23>>=λ zz=>((boolT .Or [((((lk lc4 (nm "self"))>>=λ v25=>(attrA tb0 v25 (nm "at"))))>>=λ v26=>(((seqA [((lk lc4 (nm "self"))>>=λ v27=>(attrA tb0 v27 (nm "text")))]>>=λ vs28=>(callB tb0 .len vs28)))>>=λ v29=>(cmpA .GtE v26 v29))),((((((lk lc4 (nm "self"))>>=λ v30=>(attrA tb0 v30 (nm "text"))))>>=λ v31=>((((lk lc4 (nm "self"))>>=λ v32=>(attrA tb0 v32 (nm "at"))))>>=λ v33=>(subA v31 v33))))>>=λ v34=>(cmpA .NotIn v34 (.str [124,92])))])>>=λ tc=>match tc with
 | true=>(((lk lc4 (nm "self"))>>=λ v35=>(methA tb0 v35 (nm "refuse")>>=λ m36=>callM ⟨tb0,c,fuel⟩ m36 v35 [(.str [97,32,98,97,99,107,32,115,116,114,111,107,101,32,97,104,101,97,100,32,111,102,32,97,110,111,116,104,101,114,32,115,105,103,110])]))>>=λ zz=>(((((((lk lc4 (nm "self"))>>=λ v37=>(attrA tb0 v37 (nm "text"))))>>=λ v38=>((((lk lc4 (nm "self"))>>=λ v39=>(attrA tb0 v39 (nm "at"))))>>=λ v40=>(subA v38 v40))))>>=λ v41=>(cmpA .Eq v41 (.str [10])))>>=λ tc=>match tc with
 | true=>(((lk lc4 (nm "self"))>>=λ v42=>(methA tb0 v42 (nm "refuse")>>=λ m43=>callM ⟨tb0,c,fuel⟩ m43 v42 [(.str [97,32,110,97,109,101,32,103,111,101,115,32,111,110,32,105,110,32,97,110,111,116,104,101,114,32,108,105,110,101])]))>>=λ zz=>(((lk lc4 (nm "signs"))>>=λ v44=>(methA tb0 v44 (nm "append")>>=λ m45=>(seqA [((((lk lc4 (nm "self"))>>=λ v46=>(attrA tb0 v46 (nm "text"))))>>=λ v47=>((((lk lc4 (nm "self"))>>=λ v48=>(attrA tb0 v48 (nm "at"))))>>=λ v49=>(subA v47 v49)))]>>=λ vs50=>callM ⟨tb0,c,fuel⟩ m45 v44 vs50)))>>=λ zz=>((((((lk lc4 (nm "self"))>>=λ v51=>(attrA tb0 v51 (nm "at"))))>>=λ v52=>(binA .Add v52 (.int 1))))>>=λ x53=>((lk lc4 (nm "self"))>>=λ v54=>(setAttrA tb0 v54 (nm "at") x53>>=λ zz=>(kk5 lc4))))))
 | false=>(((lk lc4 (nm "signs"))>>=λ v55=>(methA tb0 v55 (nm "append")>>=λ m56=>(seqA [((((lk lc4 (nm "self"))>>=λ v57=>(attrA tb0 v57 (nm "text"))))>>=λ v58=>((((lk lc4 (nm "self"))>>=λ v59=>(attrA tb0 v59 (nm "at"))))>>=λ v60=>(subA v58 v60)))]>>=λ vs61=>callM ⟨tb0,c,fuel⟩ m56 v55 vs61)))>>=λ zz=>((((((lk lc4 (nm "self"))>>=λ v62=>(attrA tb0 v62 (nm "at"))))>>=λ v63=>(binA .Add v63 (.int 1))))>>=λ x64=>((lk lc4 (nm "self"))>>=λ v65=>(setAttrA tb0 v65 (nm "at") x64>>=λ zz=>(kk5 lc4)))))))
 | false=>(((((((lk lc4 (nm "self"))>>=λ v66=>(attrA tb0 v66 (nm "text"))))>>=λ v67=>((((lk lc4 (nm "self"))>>=λ v68=>(attrA tb0 v68 (nm "at"))))>>=λ v69=>(subA v67 v69))))>>=λ v70=>(cmpA .Eq v70 (.str [10])))>>=λ tc=>match tc with
 | true=>(((lk lc4 (nm "self"))>>=λ v71=>(methA tb0 v71 (nm "refuse")>>=λ m72=>callM ⟨tb0,c,fuel⟩ m72 v71 [(.str [97,32,110,97,109,101,32,103,111,101,115,32,111,110,32,105,110,32,97,110,111,116,104,101,114,32,108,105,110,101])]))>>=λ zz=>(((lk lc4 (nm "signs"))>>=λ v73=>(methA tb0 v73 (nm "append")>>=λ m74=>(seqA [((((lk lc4 (nm "self"))>>=λ v75=>(attrA tb0 v75 (nm "text"))))>>=λ v76=>((((lk lc4 (nm "self"))>>=λ v77=>(attrA tb0 v77 (nm "at"))))>>=λ v78=>(subA v76 v78)))]>>=λ vs79=>callM ⟨tb0,c,fuel⟩ m74 v73 vs79)))>>=λ zz=>((((((lk lc4 (nm "self"))>>=λ v80=>(attrA tb0 v80 (nm "at"))))>>=λ v81=>(binA .Add v81 (.int 1))))>>=λ x82=>((lk lc4 (nm "self"))>>=λ v83=>(setAttrA tb0 v83 (nm "at") x82>>=λ zz=>(kk5 lc4))))))
 | false=>(((lk lc4 (nm "signs"))>>=λ v84=>(methA tb0 v84 (nm "append")>>=λ m85=>(seqA [((((lk lc4 (nm "self"))>>=λ v86=>(attrA tb0 v86 (nm "text"))))>>=λ v87=>((((lk lc4 (nm "self"))>>=λ v88=>(attrA tb0 v88 (nm "at"))))>>=λ v89=>(subA v87 v89)))]>>=λ vs90=>callM ⟨tb0,c,fuel⟩ m85 v84 vs90)))>>=λ zz=>((((((lk lc4 (nm "self"))>>=λ v91=>(attrA tb0 v91 (nm "at"))))>>=λ v92=>(binA .Add v92 (.int 1))))>>=λ x93=>((lk lc4 (nm "self"))>>=λ v94=>(setAttrA tb0 v94 (nm "at") x93>>=λ zz=>(kk5 lc4))))))))))
 | false=>(((((((lk lc4 (nm "self"))>>=λ v95=>(attrA tb0 v95 (nm "text"))))>>=λ v96=>((((lk lc4 (nm "self"))>>=λ v97=>(attrA tb0 v97 (nm "at"))))>>=λ v98=>(subA v96 v98))))>>=λ v99=>(cmpA .Eq v99 (.str [10])))>>=λ tc=>match tc with
 | true=>(((lk lc4 (nm "self"))>>=λ v100=>(methA tb0 v100 (nm "refuse")>>=λ m101=>callM ⟨tb0,c,fuel⟩ m101 v100 [(.str [97,32,110,97,109,101,32,103,111,101,115,32,111,110,32,105,110,32,97,110,111,116,104,101,114,32,108,105,110,101])]))>>=λ zz=>(((lk lc4 (nm "signs"))>>=λ v102=>(methA tb0 v102 (nm "append")>>=λ m103=>(seqA [((((lk lc4 (nm "self"))>>=λ v104=>(attrA tb0 v104 (nm "text"))))>>=λ v105=>((((lk lc4 (nm "self"))>>=λ v106=>(attrA tb0 v106 (nm "at"))))>>=λ v107=>(subA v105 v107)))]>>=λ vs108=>callM ⟨tb0,c,fuel⟩ m103 v102 vs108)))>>=λ zz=>((((((lk lc4 (nm "self"))>>=λ v109=>(attrA tb0 v109 (nm "at"))))>>=λ v110=>(binA .Add v110 (.int 1))))>>=λ x111=>((lk lc4 (nm "self"))>>=λ v112=>(setAttrA tb0 v112 (nm "at") x111>>=λ zz=>(kk5 lc4))))))
 | false=>(((lk lc4 (nm "signs"))>>=λ v113=>(methA tb0 v113 (nm "append")>>=λ m114=>(seqA [((((lk lc4 (nm "self"))>>=λ v115=>(attrA tb0 v115 (nm "text"))))>>=λ v116=>((((lk lc4 (nm "self"))>>=λ v117=>(attrA tb0 v117 (nm "at"))))>>=λ v118=>(subA v116 v118)))]>>=λ vs119=>callM ⟨tb0,c,fuel⟩ m114 v113 vs119)))>>=λ zz=>((((((lk lc4 (nm "self"))>>=λ v120=>(attrA tb0 v120 (nm "at"))))>>=λ v121=>(binA .Add v121 (.int 1))))>>=λ x122=>((lk lc4 (nm "self"))>>=λ v123=>(setAttrA tb0 v123 (nm "at") x122>>=λ zz=>(kk5 lc4))))))))
noncomputable def qKont (c:CC) (fuel:Nat):Lc→PM AV:=(λ lc4=>(((((lk lc4 (nm "self"))>>=λ v124=>(attrA tb0 v124 (nm "at"))))>>=λ v125=>(((seqA [((lk lc4 (nm "self"))>>=λ v126=>(attrA tb0 v126 (nm "text")))]>>=λ vs127=>(callB tb0 .len vs127)))>>=λ v128=>(cmpA .GtE v125 v128)))>>=λ tc=>match tc with
 | true=>(((lk lc4 (nm "self"))>>=λ v129=>(methA tb0 v129 (nm "refuse")>>=λ m130=>callM ⟨tb0,c,fuel⟩ m130 v129 [(.str [97,32,110,97,109,101,32,104,97,115,32,110,111,32,101,110,100])]))>>=λ zz=>((((((lk lc4 (nm "self"))>>=λ v131=>(attrA tb0 v131 (nm "at"))))>>=λ v132=>(binA .Add v132 (.int 1))))>>=λ x133=>((lk lc4 (nm "self"))>>=λ v134=>(setAttrA tb0 v134 (nm "at") x133>>=λ zz=>(((lk lc4 (nm "signs"))>>=λ v135=>(((newL []))>>=λ v136=>(cmpA .Eq v135 v136)))>>=λ tc=>match tc with
 | true=>(((lk lc4 (nm "self"))>>=λ v137=>(methA tb0 v137 (nm "refuse")>>=λ m138=>callM ⟨tb0,c,fuel⟩ m138 v137 [(.str [97,32,110,97,109,101,32,119,105,116,104,111,117,116,32,115,105,103,110,115])]))>>=λ zz=>(methA tb0 (.str []) (nm "join")>>=λ m139=>(seqA [lk lc4 (nm "signs")]>>=λ vs140=>callM ⟨tb0,c,fuel⟩ m139 (.str []) vs140)))
 | false=>(methA tb0 (.str []) (nm "join")>>=λ m141=>(seqA [lk lc4 (nm "signs")]>>=λ vs142=>callM ⟨tb0,c,fuel⟩ m141 (.str []) vs142)))))))
 | false=>((((((lk lc4 (nm "self"))>>=λ v143=>(attrA tb0 v143 (nm "at"))))>>=λ v144=>(binA .Add v144 (.int 1))))>>=λ x145=>((lk lc4 (nm "self"))>>=λ v146=>(setAttrA tb0 v146 (nm "at") x145>>=λ zz=>(((lk lc4 (nm "signs"))>>=λ v147=>(((newL []))>>=λ v148=>(cmpA .Eq v147 v148)))>>=λ tc=>match tc with
 | true=>(((lk lc4 (nm "self"))>>=λ v149=>(methA tb0 v149 (nm "refuse")>>=λ m150=>callM ⟨tb0,c,fuel⟩ m150 v149 [(.str [97,32,110,97,109,101,32,119,105,116,104,111,117,116,32,115,105,103,110,115])]))>>=λ zz=>(methA tb0 (.str []) (nm "join")>>=λ m151=>(seqA [lk lc4 (nm "signs")]>>=λ vs152=>callM ⟨tb0,c,fuel⟩ m151 (.str []) vs152)))
 | false=>(methA tb0 (.str []) (nm "join")>>=λ m153=>(seqA [lk lc4 (nm "signs")]>>=λ vs154=>callM ⟨tb0,c,fuel⟩ m153 (.str []) vs154))))))))
noncomputable def chs (s:List Nat):List AV:=s.map λ c=>.str [c]
noncomputable def cleanQ (s:List Nat):Prop:=∀ c∈s,c≠124∧c≠92∧c≠10
noncomputable def lcQ (sc si:Nat):Lc:=(nm "self",.obj sc) :: [(nm "signs",.obj si)]
theorem lk_signs {si:Nat}:lk (lcQ sc si) (nm "signs") σ=some (.ok (.obj si),σ):=run_lk (by kernel_rfl)
theorem one_ne {a b:Nat} (h:a≠b):cmpV σ .Eq (.str [a]) (.str [b])=some false:=eq_str.trans (congrArg some (decide_eq_false λ e=>h (by cases e;rfl)))
theorem set4 {si sc:Nat} {a a' b b':AO} (h:si≠sc):(((σ.set si a).set sc b).set si a').set sc b'=(σ.set si a').set sc b':=by
 rw [List.set_comm b a' (λ e=>h e.symm),List.set_set,List.set_set]
theorem run_q {T rest:List Nat} {k:Lc→PM AV} {c:CC} {fl si:Nat} (hs:si≠sc):∀ (s p:List Nat) (l:List AV) (n:Nat) (σ:AH),T=p++(s++124 :: rest)→cleanQ s→σ[sc]? = some (oScan T p)→σ[si]? = some (.list l)→s.length < n→l.length + s.length≤9000 →
  loopN qTest (qBody c fl) k n (lcQ sc si) σ=k (lcQ sc si) ((σ.set si (.list (l++chs s))).set sc (oScan T (p++s)))
 | [],p,l,n + 1,σ,hT,hg,h,h2,hn,hl=>by
  rw [List.append_nil]
  show _=k (lcQ sc si) ((σ.set si (.list (l++[]))).set sc (oScan T p))
  refine rwg (List.append_nil ..) ?_
  refine rwg (set_same h2 ..) ?_
  refine rwg (set_same h ..) ?_
  exact loop_end (run_scan h (b:=true) (b':=false) (lt_len hT) λ zz=>run_bind (run_peek h hT) (run_cmp (congrArg (λ b=>some !b) (decide_eq_true rfl))))
 | c0 :: s,p,l,n + 1,σ,hT,hg,h,h2,hn,hl=>by
  refine ex03 (hg c0 (.head _)) λ c1 c2 c3=>?_
  have hl':l.length + s.length + 1≤9000:=hl
  refine Eq.trans (loop_step (run_scan h (b:=true) (b':=true) (lt_len hT) λ zz=>run_bind (run_peek h hT) (run_cmp (congrArg (some <| !·) (decide_eq_false λ e=>c1 (by cases e;rfl)))))) ?_
  have pk:=run_peek (o:=[(nm "signs",.obj si)]) h hT
  refine run_bind (run_bind pk (run_cmp (one_ne c2))) (run_bind (run_bind pk (run_cmp (one_ne c3))) ?_)
  have h3:(σ.set si (.list (l++[.str [c0]])))[sc]? = some (oScan T p):=by rw [List.getElem?_set_ne hs];exact h
  refine run_bind (v:=.none) (σ₁:=σ.set si (AO.list (l++[AV.str [c0]]))) (run_bind lk_signs (run_append (X:=⟨tb0,c,fl⟩) h2 (run_seq pk (run_nil (run_appendM h2 (by unfold maxLen;lia)))))) ((run_up (o:=[(nm "signs",.obj si)]) h3 rfl).trans ?_)
  refine rwg (scan_c c3 ..) ?_
  refine (run_q hs s (p++[c0]) (l++[.str [c0]]) n _ (by rw [hT,List.append_assoc];rfl) (λ c hc=>hg c (.tail _ hc)) (get_set_self h3) (by rw [List.getElem?_set_ne (λ e=>hs e.symm),get_set_self h2]) (Nat.lt_of_succ_lt_succ hn) (by rw [List.length_append];show l.length + 1 + s.length≤9000;lia)).trans ?_
  refine rwg (set4 hs ..) ?_
  refine rwg (List.append_assoc ..) ?_
  refine rwg (List.append_assoc ..) ?_
  rfl
theorem strs_chs:∀ s:List Nat,strsOf (chs s)=some (s.map λ c=>[c])
 | []=>rfl
 | c :: r=>by
  show (strsOf (chs r)).map ([c] :: ·)=_
  rw [strs_chs r];rfl
theorem flat_one:∀ s:List Nat,(s.map λ c=>[c]).flatten=s
 | []=>rfl
 | c :: r=>congrArg (c :: ·) (flat_one r)
theorem run_join {X:Cx} {si:Nat} {s:List Nat} (h:σ[si]? = some (.list (chs s))) (hl:s.length≤9000):callM X .join (.str []) [.obj si] σ=some (.ok (.str s),σ):=by
 refine run_bind (run_lsO h) ?_
 show (PM.ofOpt (strsOf (chs s))>>=λ ts=>(if ([]:List Nat)=[]∧ts.flatten.length + ts.length≤maxLen then pure (AV.str ts.flatten) else PM.fail:PM AV)) σ=_
 rw [strs_chs]
 show (if ([]:List Nat)=[]∧(s.map λ c=>[c]).flatten.length + (s.map λ c=>[c]).length≤maxLen then pure (AV.str (s.map λ c=>[c]).flatten) else PM.fail:PM AV) σ=_
 rw [flat_one,List.length_map,if_pos ⟨rfl,by unfold maxLen;lia⟩]
 rfl
theorem sc_quoted {T p s rest:List Nat} (hs:cleanQ s) (hne:s≠[]) (hl:s.length≤9000) (hf:10000≤fuel) (hT:T=p++124 :: (s++124 :: rest)) (h:σ[sc]? = some (oScan T p)):∃ σ',callF tb0 fuel (d + 1) 559 [.obj sc] σ=some (.ok (.str s),σ')∧σ'[sc]? = some (oScan T (p++124 :: (s++[124])))∧Kp (At1 sc) σ σ':=by
 have hsl:=lt_of_get h
 have h1:(σ++[AO.list []])[sc]? = some (oScan T p):=getApp h
 have h2:((σ++[AO.list []]).set sc (oScan T (p++[124])))[sc]? = _:=get_set_self h1
 have h3:((σ++[AO.list []]).set sc (oScan T (p++[124])))[σ.length]? = some (.list []):=by rw [List.getElem?_set_ne (by lia)];exact get_push _ _
 have k2:Kp (At1 sc) σ ((σ++[AO.list []]).set sc (oScan T (p++[124]))):=(Kp.app σ _).trans (.set _ rfl)
 have hT2:T=(p++[124])++(s++124 :: rest):=by rw [hT,List.append_assoc];rfl
 have hT3:T=((p++[124])++s)++124 :: rest:=by rw [hT2,List.append_assoc,List.append_assoc,List.append_assoc]
 have loop:=run_q (k:=qKont (callF tb0 fuel d) fuel) (c:=callF tb0 fuel d) (fl:=fuel) (si:=σ.length) (by lia) s (p++[124]) [] fuel _ hT2 hs h2 h3 (by lia) (by show 0 + s.length≤9000;lia)
 have lsi:σ.length < ((σ++[AO.list []]).set sc (oScan T (p++[124]))).length:=lt_of_get h3
 generalize hσ1:((σ++[AO.list []]).set sc (oScan T (p++[124])))=σ₁ at h2 h3 k2 loop lsi
 have h4:((σ₁.set σ.length (.list ([]++chs s))).set sc (oScan T (p++[124]++s)))[sc]? = some (oScan T (p++[124]++s)):=get_set_self (o:=oScan T (p++[124])) (by rw [List.getElem?_set_ne (by lia)];exact h2)
 have h5:((σ₁.set σ.length (.list ([]++chs s))).set sc (oScan T (p++[124]++s)))[σ.length]? = some (.list (chs s)):=by rw [List.getElem?_set_ne (by lia),get_set_self h3];rfl
 have k4:Kp (At1 sc) σ ((σ₁.set σ.length (.list ([]++chs s))).set sc (oScan T (p++[124]++s))):=by
  refine Kp.trans ⟨by rw [List.length_set];exact k2.1,λ i o n e=>?_⟩ (.set _ rfl)
  rw [List.getElem?_set_ne (by have:=lt_of_get e;lia)]
  exact k2.2 i o n e
 generalize ((σ₁.set σ.length (.list ([]++chs s))).set sc (oScan T (p++[124]++s)))=σ₂ at h4 h5 k4 loop
 have h7:(σ₂.set sc (oScan T (p++[124]++s++[124])))[σ.length]? = some (.list (chs s)):=by rw [List.getElem?_set_ne (by lia)];exact h5
 have hpos:(!decide (0 < (chs s).length))=false:=by
  have:0 < (chs s).length:=by unfold chs;rw [List.length_map];exact List.length_pos_iff.mpr hne
  rw [decide_eq_true this];rfl
 have kont:qKont (callF tb0 fuel d) fuel (lcQ sc σ.length) σ₂=some (.ok (.str s),σ₂.set sc (oScan T (p++[124]++s++[124]))++[.list []]):=by
  refine run_bind (run_bind (run_bind lk_self (sc_at h4)) (run_bind (run_seq (run_bind lk_self (sc_text h4)) rfl) (run_cmp (ge_cons hT3)))) ((run_up (o:=[(nm "signs",.obj σ.length)]) h4 rfl).trans ?_)
  rw [scan_c (show (124:Nat)≠10 by decide)]
  refine run_bind (run_bind lk_signs ((run_empty h7).trans (by rw [hpos]))) (run_bind (v:=Mt.join) (σ₁:=σ₂.set sc (oScan T (p++[124]++s++[124]))++[.list []]) rfl (run_seq lk_signs (run_nil (run_join (getApp h7) hl))))
 refine⟨σ₂.set sc (oScan T (p++[124]++s++[124]))++[AO.list []],?_,by rw [← (by simp:p++[124]++s++[124]=p++124 :: (s++[124]))];exact getApp (get_set_self h4),(k4.trans (.set _ rfl)).to _⟩
 rw [den_559]
 refine run_bind (run_newL (Nat.zero_le _)) (run_bind (run_bind (sc_at h1) rfl) (run_bind (sc_set_at h1) ?_))
 rw [scan_c (show (124:Nat)≠10 by decide),hσ1]
 exact loop.trans kont
theorem word_quote {T p g s rest:List Nat} (hs:cleanQ s) (hne:s≠[]) (hl:s.length≤9000) (hf:10000≤fuel) (hT:T=p++(g++124 :: (s++124 :: rest))) (hg:∀ c∈g,c∈blanks) (h:σ[sc]? = some (oScan T p)) (hn:g.length < fuel):WR fuel d sc T (p++g++124 :: (s++[124])) (oWord sName (.str s) (pT (ps (p++g)))) σ:=by
 refine WR.of (rest:=124 :: (s++124 :: rest)) (λ c' r' e=>by cases e;decide) hT hg h hn λ σ₁ h1=>?_
 have hT':T=(p++g)++124 :: (s++124 :: rest):=by rw [hT,List.append_assoc]
 generalize p++g=q at h1 hT'
 refine ex13 (sc_quoted (d:=d + 1) hs hne hl hf hT' h1) λ σ₂ e2 s2 k2=>?_
 exact⟨_,_,run_bind (run_bind (sc_at h1) (run_bind (run_seq (sc_text h1) rfl) (run_cmp (ge_cons hT')))) (run_bind (run_bind (sc_text h1) (run_bind (sc_at h1) (run_sign hT'))) (run_bind (run_cmp (r:=false) (congrArg some (decide_eq_false (by decide)))) (run_bind (run_cmp (r:=true) rfl) (run_seq (σ₁:=σ₁) (v:=.str sName) rfl (run_seq ((sc_meth h1 rfl rfl).trans e2) (run_seq (σ₁:=σ₂) (v:=pT (ps q)) rfl (run_nil new_word))))))),k2.1,get_push _ _,getApp s2,k2.to _⟩
end
section
variable {σ σ' σ₀:AH} {fuel d sc ou wt i j:Nat} {T p:List Nat} {q:Pos} {vs below:List AV}
noncomputable def rwTest:Lc→PM Bool:=(λ lc6=>((((lk lc6 (nm "word"))>>=λ v8=>(attrA tb0 v8 (nm "kind"))))>>=λ v9=>(cmpA .NotEq v9 (.str [101,110,100]))))
noncomputable def rwBody (c:CC) (fuel:Nat):Lc→(Lc→PM AV)→PM AV:=(λ lc6 kk7=>(((((lk lc6 (nm "word"))>>=λ v10=>(attrA tb0 v10 (nm "kind"))))>>=λ v11=>(cmpA .Eq v11 (.str [40])))>>=λ tc=>match tc with
 | true=>(((lk lc6 (nm "waiting"))>>=λ v12=>(methA tb0 v12 (nm "append")>>=λ m13=>(seqA [(seqA [((lk lc6 (nm "word"))>>=λ v14=>(attrA tb0 v14 (nm "place")))]>>=λ vs15=>(c 438 vs15))]>>=λ vs16=>callM ⟨tb0,c,fuel⟩ m13 v12 vs16)))>>=λ zz=>((((lk lc6 (nm "scanner"))>>=λ v17=>(methA tb0 v17 (nm "word")>>=λ m18=>callM ⟨tb0,c,fuel⟩ m18 v17 [])))>>=λ x19=>(kk7 (kvSet lc6 (nm "word") x19))))
 | false=>(((((lk lc6 (nm "word"))>>=λ v20=>(attrA tb0 v20 (nm "kind"))))>>=λ v21=>(cmpA .Eq v21 (.str [41])))>>=λ tc=>match tc with
 | true=>((((seqA [lk lc6 (nm "waiting")]>>=λ vs22=>(callB tb0 .len vs22)))>>=λ v23=>(cmpA .Eq v23 (.int 1)))>>=λ tc=>match tc with
 | true=>(seqA [(pure (.str [97,32,98,114,97,99,107,101,116,32,99,108,111,115,101,115,32,110,111,116,104,105,110,103])),((lk lc6 (nm "word"))>>=λ v24=>(attrA tb0 v24 (nm "place")))]>>=λ vs25=>(raiseA tb0 (.val 397) vs25))
 | false=>(((seqA [((lk lc6 (nm "waiting"))>>=λ v26=>(methA tb0 v26 (nm "pop")>>=λ m27=>callM ⟨tb0,c,fuel⟩ m27 v26 []))]>>=λ vs28=>(c 672 vs28)))>>=λ x29=>(((((((lk (kvSet lc6 (nm "ended") x29) (nm "waiting"))>>=λ v30=>(subA v30 (.int (-1)))))>>=λ v31=>(attrA tb0 v31 (nm "items"))))>>=λ v32=>(methA tb0 v32 (nm "append")>>=λ m33=>(seqA [lk (kvSet lc6 (nm "ended") x29) (nm "ended")]>>=λ vs34=>callM ⟨tb0,c,fuel⟩ m33 v32 vs34)))>>=λ zz=>((((lk (kvSet lc6 (nm "ended") x29) (nm "scanner"))>>=λ v35=>(methA tb0 v35 (nm "word")>>=λ m36=>callM ⟨tb0,c,fuel⟩ m36 v35 [])))>>=λ x37=>(kk7 (kvSet (kvSet lc6 (nm "ended") x29) (nm "word") x37))))))
 | false=>(((((((lk lc6 (nm "waiting"))>>=λ v38=>(subA v38 (.int (-1)))))>>=λ v39=>(attrA tb0 v39 (nm "items"))))>>=λ v40=>(methA tb0 v40 (nm "append")>>=λ m41=>(seqA [lk lc6 (nm "word")]>>=λ vs42=>callM ⟨tb0,c,fuel⟩ m41 v40 vs42)))>>=λ zz=>((((lk lc6 (nm "scanner"))>>=λ v43=>(methA tb0 v43 (nm "word")>>=λ m44=>callM ⟨tb0,c,fuel⟩ m44 v43 [])))>>=λ x45=>(kk7 (kvSet lc6 (nm "word") x45)))))))
noncomputable def rwKont (c:CC):Lc→PM AV:=(λ lc6=>((((seqA [lk lc6 (nm "waiting")]>>=λ vs46=>(callB tb0 .len vs46)))>>=λ v47=>(cmpA .Gt v47 (.int 1)))>>=λ tc=>match tc with
 | true=>(seqA [(pure (.str [97,32,98,114,97,99,107,101,116,32,105,115,32,110,111,116,32,99,108,111,115,101,100])),((((lk lc6 (nm "waiting"))>>=λ v48=>(subA v48 (.int (-1)))))>>=λ v49=>(attrA tb0 v49 (nm "place")))]>>=λ vs50=>(raiseA tb0 (.val 397) vs50))
 | false=>((seqA [lk lc6 (nm "outer"),(pure (.int 1)),(pure (.int 1))]>>=λ vs51=>(c 625 vs51))>>=λ zz=>lk lc6 (nm "outer"))))
noncomputable abbrev Lr (T:List Nat) (sc ou wt:Nat) (w:AV) (o:Lc):Lc:=(nm "text",.str T) :: (nm "scanner",.obj sc) :: (nm "outer",.obj ou) :: (nm "waiting",.obj wt) :: (nm "word",w) :: o
noncomputable def rwGo (c:CC) (fuel:Nat) (T:List Nat) (sc ou wt n:Nat) (o:Lc):PM AV:=(methA tb0 (.obj sc) (nm "word")>>=λ m=>callM ⟨tb0,c,fuel⟩ m (.obj sc) [])>>=λ x=>loopN rwTest (rwBody c fuel) (rwKont c) n (Lr T sc ou wt x o)
structure Stk (σ:AH) (T p:List Nat) (sc wt:Nat) (below:List AV) (i j:Nat) (q:Pos) (vs:List AV):Prop where
 s:σ[sc]? = some (oScan T p)
 w:σ[wt]? = some (.list (below++[.obj i]))
 O:Opn σ i j q vs
 n:wt≠j
theorem ne_of_get {a b:Nat} {x y:AO} (h:σ[a]? = some x) (h':σ[b]? = some y) (n:x≠y):a≠b:=λ e=>n (by rw [e,h'] at h;exact Option.some.inj h.symm)
theorem run_bind_l {α β γ:Type} {m:PM α} {f:α→PM β} {g:β→PM γ} {v:α} {σ₁:AH} (h:m σ=some (.ok v,σ₁)):((m>>=f)>>=g) σ=(f v>>=g) σ₁:=by
 rw [PM.bind_assoc]
 exact run_bind h rfl
theorem rw_tail {c:CC} {n:Nat} {w:AV} {o:Lc}:((((lk (Lr T sc ou wt w o) (nm "scanner"))>>=λ v17=>(methA tb0 v17 (nm "word")>>=λ m18=>callM ⟨tb0,c,fuel⟩ m18 v17 [])))>>=λ x19=>loopN rwTest (rwBody c fuel) (rwKont c) n (kvSet (Lr T sc ou wt w o) (nm "word") x19)) σ=rwGo c fuel T sc ou wt n o σ:=by
 refine (run_bind_l (v:=.obj sc) (run_lk (by kernel_rfl))).trans ?_
 have e:(λ x19=>loopN rwTest (rwBody c fuel) (rwKont c) n (kvSet (Lr T sc ou wt w o) (nm "word") x19))=λ x=>loopN rwTest (rwBody c fuel) (rwKont c) n (Lr T sc ou wt x o):=by
  funext x
  rw [show kvSet (Lr T sc ou wt w o) (nm "word") x=Lr T sc ou wt x o by kernel_rfl]
 rw [e];rfl
theorem lr_word {w:AV} {o:Lc}:lk (Lr T sc ou wt w o) (nm "word") σ=some (.ok w,σ):=run_lk (by kernel_rfl)
theorem lr_wait {w:AV} {o:Lc}:lk (Lr T sc ou wt w o) (nm "waiting") σ=some (.ok (.obj wt),σ):=run_lk (by kernel_rfl)
theorem lr_outer {w:AV} {o:Lc}:lk (Lr T sc ou wt w o) (nm "outer") σ=some (.ok (.obj ou),σ):=run_lk (by kernel_rfl)
theorem word_kind {k:List Nat} {v p:AV} {wi:Nat} (h:σ[wi]? = some (oWord k v p)):attrA tb0 (.obj wi) (nm "kind") σ=some (.ok (.str k),σ):=run_attr h (by kernel_rfl) (by kernel_rfl)
theorem word_place {k:List Nat} {v p:AV} {wi:Nat} (h:σ[wi]? = some (oWord k v p)):attrA tb0 (.obj wi) (nm "place") σ=some (.ok p,σ):=run_attr h (by kernel_rfl) (by kernel_rfl)
theorem rw_enter {n:Nat} {o:Lc} {k:List Nat} {v pl:AV} {wi:Nat} {σ₁:AH} (hs:σ[sc]? = some (oScan T p)) (e:callF tb0 fuel (d + 7) 552 [.obj sc] σ=some (.ok (.obj wi),σ₁)) (h:σ₁[wi]? = some (oWord k v pl)) (hk:k≠sEnd):
  rwGo (callF tb0 fuel (d + 7)) fuel T sc ou wt (n + 1) o σ=rwBody (callF tb0 fuel (d + 7)) fuel (Lr T sc ou wt (.obj wi) o) (λ lc=>loopN rwTest (rwBody (callF tb0 fuel (d + 7)) fuel) (rwKont (callF tb0 fuel (d + 7))) n lc) σ₁:=by
 refine run_bind ((sc_meth hs rfl rfl).trans e) (loop_step ?_)
 exact run_bind (run_bind lr_word (word_kind h)) (run_cmp (congrArg (some <| !·) (decide_eq_false hk)))
theorem at_last {l:List AV} {v:AV} (h:σ[wt]? = some (.list (l++[v]))):subA (.obj wt) (.int (-1)) σ=some (.ok v,σ):=by
 refine run_bind (run_getO h) ?_
 show PM.ofOpt ((placeOf (-1) (l++[v]).length).bind λ j=>(l++[v])[j]?) σ=_
 have:placeOf (-1) (l++[v]).length=some l.length:=by
  unfold placeOf
  rw [if_neg (by lia),if_pos (by simp;lia),List.length_append]
  exact congrArg some (by simp;lia)
 rw [this]
 show PM.ofOpt ((l++[v])[l.length]?) σ=_
 rw [List.getElem?_concat_length];rfl
theorem step_word {n:Nat} {o:Lc} {k:List Nat} {v pl:AV} {p':List Nat} (S:Stk σ T p sc wt below i j q vs) (W:WR fuel (d + 4) sc T p' (oWord k v pl) σ) (hk:k≠sEnd) (hk1:k≠[40]) (hk2:k≠[41]) (hl:vs.length < 9000):
  ∃ σ' wi,rwGo (callF tb0 fuel (d + 7)) fuel T sc ou wt (n + 1) o σ=rwGo (callF tb0 fuel (d + 7)) fuel T sc ou wt n o σ'∧Stk σ' T p' sc wt below i j q (vs++[.obj wi])∧Kp (λ x=>x=sc∨x=j) σ σ'∧σ.length≤wi∧σ'[wi]? = some (oWord k v pl):=by
 obtain @⟨wi,σ₁,e,a,h,s,k1⟩:=W
 have n3:j≠sc:=ne_of_get S.O.l S.s (λ e=>nomatch e)
 have O1:Opn σ₁ i j q vs:=⟨k1.get1 (ne_of_get S.O.h S.s (λ e=>nomatch e)) S.O.h,k1.get1 n3 S.O.l⟩
 have w1:=k1.get1 (ne_of_get S.w S.s (λ e=>nomatch e)) S.w
 have keep:∀ {x:Nat} {o:AO},x≠j→σ₁[x]? = some o→(σ₁.set j (.list (vs++[.obj wi])))[x]? = some o:=λ hx e=>by rw [List.getElem?_set_ne (λ z=>hx z.symm)];exact e
 refine⟨σ₁.set j (.list (vs++[.obj wi])),wi,(rw_enter (d:=d) S.s e h hk).trans ?_,⟨keep (λ z=>n3 z.symm) s,keep S.n w1,⟨keep (ne_of_get O1.h O1.l (λ e=>nomatch e)) O1.h,get_set_self O1.l⟩,S.n⟩,?_,a,keep (ne_of_get h O1.l (λ e=>nomatch e)) h⟩
 ·refine run_bind (run_bind (run_bind lr_word (word_kind h)) (run_cmp (eq_str.trans (congrArg some (decide_eq_false hk1))))) (run_bind (run_bind (run_bind lr_word (word_kind h)) (run_cmp (eq_str.trans (congrArg some (decide_eq_false hk2))))) (run_bind (v:=.none) (σ₁:=σ₁.set j (.list (vs++[.obj wi]))) ?_ rw_tail))
  exact run_bind (run_bind (run_bind lr_wait (at_last w1)) O1.items) (run_append (X:=⟨tb0,callF tb0 fuel (d + 7),fuel⟩) O1.l (run_seq lr_word (run_nil (run_appendM O1.l (by unfold maxLen;lia)))))
 ·exact (k1.mono λ zz zz z=>.inl z).trans (.set _ (.inr rfl))
inductive Opd (fuel d sc ou wt:Nat) (T p':List Nat) (i j n:Nat) (o:Lc) (q r:Pos) (vs below:List AV) (σ:AH):Prop
 | mk (σ':AH) (i' j':Nat) (e:rwGo (callF tb0 fuel (d + 7)) fuel T sc ou wt (n + 1) o σ=rwGo (callF tb0 fuel (d + 7)) fuel T sc ou wt n o σ') (S:Stk σ' T p' sc wt (below++[.obj i]) i' j' r []) (O:Opn σ' i j q vs)
  (k:Kp (λ x=>x=sc∨x=wt) σ σ') (l1:σ.length≤i') (l2:σ.length≤j') (l3:i' < σ'.length) (l4:j' < σ'.length)
theorem step_open {n:Nat} {o:Lc} {v:AV} {r:Pos} {p':List Nat} (S:Stk σ T p sc wt below i j q vs) (W:WR fuel (d + 4) sc T p' (oWord [40] v (pT r)) σ) (hl:below.length < 9000):
  Opd fuel d sc ou wt T p' i j n o q r vs below σ:=by
 obtain @⟨wi,σ₁,e,a,h,s,k1⟩:=W
 have n1:wt≠sc:=ne_of_get S.w S.s (λ e=>nomatch e)
 have O1:Opn σ₁ i j q vs:=⟨k1.get1 (ne_of_get S.O.h S.s (λ e=>nomatch e)) S.O.h,k1.get1 (ne_of_get S.O.l S.s (λ e=>nomatch e)) S.O.l⟩
 have w1:=k1.get1 n1 S.w
 have n5:i≠wt:=ne_of_get O1.h w1 (λ e=>nomatch e)
 have lw:=lt_of_get w1
 have w2:((σ₁++[oOpen r (σ₁.length + 1)])++[AO.list []])[wt]? = some (.list (below++[.obj i])):=getApp (getApp w1)
 have keep:∀ {x:Nat} {o:AO},x≠wt→σ₁[x]? = some o→(((σ₁++[oOpen r (σ₁.length + 1)])++[AO.list []]).set wt (.list ((below++[.obj i])++[.obj σ₁.length])))[x]? = some o:=λ hx e=>by rw [List.getElem?_set_ne (λ z=>hx z.symm)];exact getApp (getApp e)
 have a1:=k1.1
 refine⟨((σ₁++[oOpen r (σ₁.length + 1)])++[AO.list []]).set wt (.list ((below++[.obj i])++[.obj σ₁.length])),σ₁.length,σ₁.length + 1,(rw_enter (d:=d) S.s e h (λ e=>nomatch e)).trans ?_,⟨keep (λ z=>n1 z.symm) s,get_set_self w2,⟨?_,?_⟩,Nat.ne_of_lt (Nat.lt_succ_of_lt lw)⟩,⟨keep n5 O1.h,keep (λ z=>S.n z.symm) O1.l⟩,?_,a1,Nat.le_succ_of_le a1,by simp,by simp⟩
 ·refine run_bind (run_bind (run_bind lr_word (word_kind h)) (run_cmp (r:=true) rfl)) (run_bind (v:=.none) (σ₁:=((σ₁++[oOpen r (σ₁.length + 1)])++[AO.list []]).set wt (.list ((below++[.obj i])++[.obj σ₁.length]))) ?_ rw_tail)
  exact run_bind lr_wait (run_append (X:=⟨tb0,callF tb0 fuel (d + 7),fuel⟩) w1 (run_seq (run_seq (run_bind lr_word (word_place h)) (run_nil new_open)) (run_nil (run_appendM w2 (by rw [List.length_append];show below.length + 1 < 1000000;lia)))))
 ·rw [List.getElem?_set_ne (by lia)];exact getApp (get_push _ _)
 ·rw [List.getElem?_set_ne (by lia)]
  have:=get_push (σ₁++[oOpen r (σ₁.length + 1)]) (AO.list [])
  rw [List.length_append] at this;exact this
 ·refine (k1.mono λ zz zz z=>.inl z).trans (((Kp.app _ _).to _).trans (.set _ (.inr rfl)))
theorem set_at {x:Nat} {o o':AO} {y:Nat} (hx:x≠y) (e:σ[x]? = some o):(σ.set y o')[x]? = some o:=by rw [List.getElem?_set_ne (λ z=>hx z.symm)];exact e
theorem step_close {n N0 N1 i2 j2:Nat} {q2:Pos} {vs2:List AV} {is:List It} {R:Pos→Prop} {o:Lc} {v:AV} {r:Pos} {p':List Nat} (hf:10000≤fuel) (S:Stk σ T p sc wt (below++[.obj i]) i2 j2 q2 vs2) (O:Opn σ i j q vs) (hj:wt≠j) (W:WR fuel (d + 4) sc T p' (oWord [41] v (pT r)) σ) (ho:o=[]∨∃ v,o=[(nm "ended",v)])
  (hl:vs.length < 9000) (X:RepIs R N1 σ vs2 is) (hm:is.length≤9000) (hR:R q2) (h1:N0≤i2) (h2:N0≤j2) (h3:N0≤N1) (h4:N0≤σ.length) (hsc:sc < N1) (hwt:wt < N1) (hjN:j < N0) (hw:∀ w r,is = .key w :: r→w∈keyWs):
  (∃ σ' v it,kd is=some it∧rwGo (callF tb0 fuel (d + 7)) fuel T sc ou wt (n + 1) o σ=rwGo (callF tb0 fuel (d + 7)) fuel T sc ou wt n [(nm "ended",v)] σ'∧Stk σ' T p' sc wt below i j q (vs++[v])∧RepI R N0 σ' v it∧Kp (λ x=>x=sc∨x=wt∨x=j) σ σ') ∨
  (∃ σ' q',kd is=none∧rwGo (callF tb0 fuel (d + 7)) fuel T sc ou wt (n + 1) o σ=some (.error (pT q'),σ')∧R q'∧Kp (λ x=>x=sc∨x=wt∨x=j) σ σ'):=by
 obtain @⟨wi,σ₁,e,a,h,s,k1⟩:=W
 have n1:wt≠sc:=ne_of_get S.w S.s (λ e=>nomatch e)
 have n2:i≠sc:=ne_of_get O.h S.s (λ e=>nomatch e)
 have n3:j≠sc:=ne_of_get O.l S.s (λ e=>nomatch e)
 have n6:i2≠sc:=ne_of_get S.O.h S.s (λ e=>nomatch e)
 have n7:j2≠sc:=ne_of_get S.O.l S.s (λ e=>nomatch e)
 have O1:Opn σ₁ i j q vs:=⟨k1.get1 n2 O.h,k1.get1 n3 O.l⟩
 have P1:Opn σ₁ i2 j2 q2 vs2:=⟨k1.get1 n6 S.O.h,k1.get1 n7 S.O.l⟩
 have w1:=k1.get1 n1 S.w
 have X1:RepIs R N1 σ₁ vs2 is:=X.move (λ zz r=>r) (Nat.le_refl _) λ x o hx e=>k1.get1 (by lia) e
 have m1:i≠wt:=ne_of_get O1.h w1 (λ e=>nomatch e)
 have m2:i2≠wt:=ne_of_get P1.h w1 (λ e=>nomatch e)
 have w2:(σ₁.set wt (.list (below++[.obj i])))[wt]? = some (.list (below++[.obj i])):=get_set_self w1
 have O2:Opn (σ₁.set wt (.list (below++[.obj i]))) i j q vs:=⟨set_at m1 O1.h,set_at (λ z=>hj z.symm) O1.l⟩
 have P2:Opn (σ₁.set wt (.list (below++[.obj i]))) i2 j2 q2 vs2:=⟨set_at m2 P1.h,set_at (λ z=>S.n z.symm) P1.l⟩
 have X2:RepIs R N1 (σ₁.set wt (.list (below++[.obj i]))) vs2 is:=X1.move (λ zz r=>r) (Nat.le_refl _) λ x o hx e=>set_at (by lia) e
 have s2:(σ₁.set wt (.list (below++[.obj i])))[sc]? = some (oScan T p'):=set_at (λ z=>n1 z.symm) s
 have k2:Kp (λ x=>x=sc∨x=wt∨x=j) σ (σ₁.set wt (.list (below++[.obj i]))):=(k1.mono λ zz zz z=>.inl z).trans (.set _ (.inr (.inl rfl)))
 have l2:N0≤(σ₁.set wt (.list (below++[.obj i]))).length:=Nat.le_trans h4 k2.1
 have hpop:((lk (Lr T sc ou wt (.obj wi) o) (nm "waiting"))>>=λ v26=>(methA tb0 v26 (nm "pop")>>=λ m27=>callM ⟨tb0,callF tb0 fuel (d + 7),fuel⟩ m27 v26 [])) σ₁=some (.ok (.obj i2),σ₁.set wt (.list (below++[.obj i]))):=by
  refine run_bind lr_wait (run_bind (v:=Mt.pop) (σ₁:=σ₁) (run_bind (run_getO w1) rfl) (run_bind (run_lsO w1) ?_))
  show (match ((below++[AV.obj i])++[AV.obj i2]).getLast? with
   | some v=>(do setO wt (.list ((below++[AV.obj i])++[AV.obj i2]).dropLast);pure v:PM AV)
   | Option.none=>PM.fail) σ₁=_
  rw [List.getLast?_concat,List.dropLast_concat];rfl
 have front:∀ x,((((seqA [((lk (Lr T sc ou wt (.obj wi) o) (nm "waiting"))>>=λ v26=>(methA tb0 v26 (nm "pop")>>=λ m27=>callM ⟨tb0,callF tb0 fuel (d + 7),fuel⟩ m27 v26 []))]>>=λ vs28=>(callF tb0 fuel (d + 7) 672 vs28)))>>=λ x29=>(((((((lk (kvSet (Lr T sc ou wt (.obj wi) o) (nm "ended") x29) (nm "waiting"))>>=λ v30=>(subA v30 (.int (-1)))))>>=λ v31=>(attrA tb0 v31 (nm "items"))))>>=λ v32=>(methA tb0 v32 (nm "append")>>=λ m33=>(seqA [lk (kvSet (Lr T sc ou wt (.obj wi) o) (nm "ended") x29) (nm "ended")]>>=λ vs34=>callM ⟨tb0,callF tb0 fuel (d + 7),fuel⟩ m33 v32 vs34)))>>=λ zz=>((((lk (kvSet (Lr T sc ou wt (.obj wi) o) (nm "ended") x29) (nm "scanner"))>>=λ v35=>(methA tb0 v35 (nm "word")>>=λ m36=>callM ⟨tb0,callF tb0 fuel (d + 7),fuel⟩ m36 v35 [])))>>=λ x37=>loopN rwTest (rwBody (callF tb0 fuel (d + 7)) fuel) (rwKont (callF tb0 fuel (d + 7))) n (kvSet (kvSet (Lr T sc ou wt (.obj wi) o) (nm "ended") x29) (nm "word") x37))))) σ₁=x →
   rwGo (callF tb0 fuel (d + 7)) fuel T sc ou wt (n + 1) o σ=x:=λ x hx=>by
  refine (rw_enter (d:=d) S.s e h (λ e=>nomatch e)).trans ?_
  refine run_bind (run_bind (run_bind lr_word (word_kind h)) (run_cmp (r:=false) rfl)) (run_bind (run_bind (run_bind lr_word (word_kind h)) (run_cmp (r:=true) rfl)) (run_bind (v:=false) (σ₁:=σ₁) ?_ hx))
  refine run_bind (run_seq lr_wait (run_nil (run_len w1))) (run_cmp (congrArg some (decide_eq_false ?_)))
  simp;lia
 generalize (σ₁.set wt (.list (below++[.obj i])))=σ₂ at w2 O2 P2 X2 s2 k2 hpop l2
 have hset:∀ v,kvSet (Lr T sc ou wt (.obj wi) o) (nm "ended") v=Lr T sc ou wt (.obj wi) [(nm "ended",v)]:=λ v=>by
  clear hw hjN hwt hsc h4 h3 h2 h1 hR hm X hl hj O S hf front hpop l2 k2 s2 X2 P2 O2 w2 m2 m1 X1 w1 P1 O1 n7 n6 n3 n2 n1 k1 s h a e σ₁ p' R is vs2 q2 j2 i2 N1 N0 n r
  rcases ho with rfl | ⟨u,rfl⟩<;>kernel_rfl
 have hin:=rs_closed (d:=d) hf hm hR P2 X2 h1 h2 h3 l2 hw
 cases hin with
 | bad hb q' σ' e' r' k'=>
  refine .inr ⟨σ',q',?_,front _ (run_err (run_seq hpop (run_nil e'))),r',k2.trans k'.no⟩
  cases hk:kd is with
  | none=>rfl
  | some it=>rw [hk] at hb;cases hb
 | good hb v3 σ₃ e' k' p3=>
  refine ex12 (p3) λ it hit x3=>?_
  have O3:=O2.no k'
  have w3:=k'.2 _ _ (λ h=>h) w2
  have s3:=sc_keep k' s2
  have m3:i≠j:=ne_of_get O3.h O3.l (λ e=>nomatch e)
  refine .inl ⟨σ₃.set j (.list (vs++[v3])),v3,it,hit,front _ (run_bind (run_seq hpop (run_nil e')) ?_),⟨set_at (λ z=>n3 z.symm) s3,set_at hj w3,⟨set_at m3 O3.h,get_set_self O3.l⟩,hj⟩,x3.move (λ zz r=>r) (Nat.le_refl _) λ x o hx e=>set_at (by lia) e,(k2.trans k'.no).trans (.set _ (.inr (.inr rfl)))⟩
  refine rwg (hset ..) ?_
  refine run_bind (v:=.none) (σ₁:=σ₃.set j (AO.list (vs++[v3]))) (run_bind (run_bind (run_bind lr_wait (at_last w3)) O3.items) (run_append (X:=⟨tb0,callF tb0 fuel (d + 7),fuel⟩) O3.l (run_seq (v:=v3) (σ₁:=σ₃) (run_lk (by kernel_rfl)) (run_nil (run_appendM O3.l (by unfold maxLen;lia)))))) rw_tail
end
section
variable {Q:AV→AH→Prop} {E:AV→AH→Prop} {σ:AH}
noncomputable def oSt (p:List Nat) (r c:Int):AO:=.dict [(nm "text",.str p),(nm "row",.int r),(nm "column",.int c)]
theorem w_text {st:Nat} {p:List Nat} {r c:Int} (h:σ[st]? = some (oSt p r c)):subA (.obj st) (.str [116,101,120,116]) σ=some (.ok (.str p),σ):=run_subK h (by kernel_rfl)
theorem w_row {st:Nat} {p:List Nat} {r c:Int} (h:σ[st]? = some (oSt p r c)):subA (.obj st) (.str [114,111,119]) σ=some (.ok (.int r),σ):=run_subK h (by kernel_rfl)
theorem w_col {st:Nat} {p:List Nat} {r c:Int} (h:σ[st]? = some (oSt p r c)):subA (.obj st) (.str [99,111,108,117,109,110]) σ=some (.ok (.int c),σ):=run_subK h (by kernel_rfl)
theorem wp_text {st:Nat} {p p':List Nat} {r c:Int} (h:σ[st]? = some (oSt p r c)):setItemA (.obj st) (.str [116,101,120,116]) (.str p') σ=some (.ok (),σ.set st (oSt p' r c)):=(run_setK h (by kernel_rfl)).trans (by kernel_rfl)
theorem wp_row {st:Nat} {p:List Nat} {r r' c:Int} (h:σ[st]? = some (oSt p r c)):setItemA (.obj st) (.str [114,111,119]) (.int r') σ=some (.ok (),σ.set st (oSt p r' c)):=(run_setK h (by kernel_rfl)).trans (by kernel_rfl)
theorem wp_col {st:Nat} {p:List Nat} {r c c':Int} (h:σ[st]? = some (oSt p r c)):setItemA (.obj st) (.str [99,111,108,117,109,110]) (.int c') σ=some (.ok (),σ.set st (oSt p r c')):=(run_setK h (by kernel_rfl)).trans (by kernel_rfl)
theorem run_addS {a b:List Nat} (h:a.length + b.length≤1000000):binA .Add (.str a) (.str b) σ=some (.ok (.str (a++b)),σ):=congrFun (if_pos h) σ
theorem W_put {d fuel st:Nat} {p w:List Nat} (hd:1≤d) (h:St st p σ) (hw:∀ c∈w,c≠10) (hl:p.length + w.length≤1000000)
  (q:∀ σ',St st (p++w) σ'→Kp (At1 st) σ σ'→σ'.length=σ.length→Q (pT (ps p)) σ'):W (callF tb0 fuel d 776 [.obj st,.str w]) Q E σ:=by
 refine Exists.elim (Nat.exists_eq_add_of_le' hd) λ d rr1=>?_
 subst rr1
 refine rwg (den_776 ..) ?_
 let r:Int:=(ps p).1
 let c:Int:=(ps p).2
 have h1:(σ.set st (oSt (p++w) r c))[st]? = some (oSt (p++w) r c):=get_set_self h
 refine .of (σ₁:=(σ.set st (oSt (p++w) r c)).set st (oSt (p++w) r (c + w.length))) (v:=pT (ps p)) ?_ (q _ ?_ ((Kp.set (P:=At1 st) _ rfl).trans (.set _ rfl)) (by rw [List.length_set,List.length_set]))
 ·exact run_bind (run_seq (w_row h) (run_seq (w_col h) (run_nil rfl))) (run_bind (run_seq (run_bind (w_text h) (run_addS hl)) (run_seq (run_bind (w_col h) (run_bind rfl rfl)) (run_nil rfl)))
   (run_bind (wp_text h) (run_bind (wp_col h1) rfl)))
 ·show _=some (oSt (p++w) _ _)
  refine rwg (ps_app ..) ?_
  refine rwg (psF_one _ _ hw ..) ?_
  exact get_set_self h1
noncomputable def gapA:List AV:=[.str [32],.str [32],.str [9,32],.str [10],.str [32,13,10,32]]
theorem gapA_mem {v:AV} (h:v∈gapA):∃ g,v = .str g∧g∈gaps:=by
 simp only [gapA,List.mem_cons,List.not_mem_nil,or_false] at h
 rcases h with rfl | rfl | rfl | rfl | rfl<;>exact⟨_,rfl,by decide⟩
theorem allWs_len:∀ w∈allWs,w.length≤8∧∀ c∈w,c≠10:=by decide +kernel
theorem gaps_len:∀ w∈gaps,w.length≤4:=by decide +kernel
theorem gap_facts (q:Pos):∀ g∈gaps,((10:Nat) ∉ g∧psF q g=(q.1,q.2 + g.length)) ∨
  ((10:Nat)∈g∧∃ z:Int,(∀ (X:Cx) (σ:AH),callM X .find (.str g) [.str [10]] σ=some (.ok (.int z),σ))∧∃ n:Nat,psF q g=(q.1 + 1,n)∧(n:Int)=g.length - z):=by
 intro g hg
 simp only [gaps,List.mem_cons,List.not_mem_nil,or_false] at hg
 rcases hg with rfl | rfl | rfl | rfl
 ·exact .inl ⟨by decide,rfl⟩
 ·exact .inl ⟨by decide,rfl⟩
 ·exact .inr ⟨by decide,0,λ zz zz=>rfl,1,rfl,rfl⟩
 ·exact .inr ⟨by decide,2,λ zz zz=>rfl,2,rfl,rfl⟩
theorem W_gap {d fuel s st:Nat} {p:List Nat} (hd:3≤d) (h:St st p σ) (hs:Sr s σ) (hne:s≠st) (hl:p.length + 4≤1000000)
  (q:∀ g σ',g∈gaps→St st (p++g) σ'→Sr s σ'→Kp (λ x=>x=s∨x=st) σ σ'→Q .none σ'):W (callF tb0 fuel d 769 [.obj s,.obj st]) Q E σ:=by
 obtain⟨d,rfl⟩:=Nat.exists_eq_add_of_le' (show 1≤d by lia)
 refine W.rw (den_769 ..) ?_
 unfold D769
 have l1:=lt_of_get h
 have l2:=hs.lt
 refine W.bind (W.bind (W.seq (W.ret (W.seq (W.newL ?_)))))
 refine⟨by decide,?_⟩
 refine W_one (by lia) (hs.app _) (get_push _ _) (by lia) (by decide) (by decide) λ v σ₁ hv s1 k1 n1=>?_
 replace h:σ₁[st]? = some (oSt p (ps p).1 (ps p).2):=k1.get1 (λ x=>hne x.symm) (getApp h)
 refine ex12 (gapA_mem hv) λ g rr1 hg=>?_
 subst rr1
 have fin:∀ σ',σ'[st]? = some (oSt (p++g) (psF (ps p) g).1 (psF (ps p) g).2)→Kp (At1 st) σ₁ σ'→Q .none σ':=λ σ' h' k'=>by
  refine q g _ hg ?_ ?_ (((Kp.app _ _).trans (k1.mono λ zz zz x=>.inl x)).trans (k'.mono λ zz zz x=>.inr x))
  ·show _=some (oSt (p++g) _ _)
   rw [ps_app];exact h'
  ·refine ex21 (s1) λ a b s1=>?_
   exact⟨a,b,k'.2 _ _ hne s1⟩
 have t1:=w_text h
 have t2:=wp_text (p':=p++g) h
 have h1:(σ₁.set st (oSt (p++g) (ps p).1 (ps p).2))[st]? = some (oSt (p++g) (ps p).1 (ps p).2):=get_set_self h
 have hk:Kp (At1 st) σ₁ (σ₁.set st (oSt (p++g) (ps p).1 (ps p).2)):=.set _ rfl
 have hl':=run_addS (σ:=σ₁) (Nat.le_trans (Nat.add_le_add_left (gaps_len g hg) _) hl)
 rcases gap_facts (ps p) g hg with ⟨hm,e⟩ | ⟨hm,z,hz,n,e,en⟩
 ·rw [e] at fin
  exact .of (run_bind (run_bind t1 hl') (run_bind t2 (run_bind (run_cmp (congrArg some (decide_eq_false hm))) (run_bind (run_bind (w_col h1) (run_bind rfl rfl)) (run_bind (wp_col h1) rfl)))))
   (fin _ (get_set_self h1) (hk.trans (.set _ rfl)))
 ·rw [e] at fin
  dsimp only at fin
  rw [en] at fin
  have h2:=get_set_self (o':=oSt (p++g) ((ps p).1 + 1) (ps p).2) h1
  exact .of (run_bind (run_bind t1 hl') (run_bind t2 (run_bind (run_cmp (congrArg some (decide_eq_true hm))) (run_bind (run_seq (run_bind (w_row h1) rfl) (run_seq (run_bind (v:=.int g.length) rfl (run_bind (run_bind (v:=.find) rfl (hz _ _)) rfl)) (run_nil rfl)))
   (run_bind (wp_row h1) (run_bind (wp_col h2) rfl)))))) (fin _ (get_set_self h2) ((hk.trans (.set _ rfl)).trans (.set _ rfl)))
noncomputable def Lw (i s st:Nat) (o:Lc):Lc:=(nm "source",.obj s) :: (nm "thing",.obj i) :: (nm "state",.obj st) :: o
noncomputable def wBody (c:CC) (fuel:Nat):AV→Lc→(Lc→PM AV)→PM AV:=(λ v5 lc3 kk4=>(((lk (kvSet lc3 (nm "at") v5) (nm "at"))>>=λ v9=>(cmpA .Gt v9 (.int 0)))>>=λ tc=>match tc with
 | true=>((seqA [lk (kvSet lc3 (nm "at") v5) (nm "source"),lk (kvSet lc3 (nm "at") v5) (nm "state")]>>=λ vs10=>(c 769 vs10))>>=λ zz=>((seqA [lk (kvSet lc3 (nm "at") v5) (nm "source"),((((lk (kvSet lc3 (nm "at") v5) (nm "thing"))>>=λ v11=>(subA v11 (.int 0))))>>=λ v12=>((lk (kvSet lc3 (nm "at") v5) (nm "at"))>>=λ v13=>(subA v12 v13))),lk (kvSet lc3 (nm "at") v5) (nm "state")]>>=λ vs14=>(c 783 vs14))>>=λ zz=>(kk4 (kvSet lc3 (nm "at") v5))))
 | false=>((seqA [lk (kvSet lc3 (nm "at") v5) (nm "source"),((((lk (kvSet lc3 (nm "at") v5) (nm "thing"))>>=λ v15=>(subA v15 (.int 0))))>>=λ v16=>((lk (kvSet lc3 (nm "at") v5) (nm "at"))>>=λ v17=>(subA v16 v17))),lk (kvSet lc3 (nm "at") v5) (nm "state")]>>=λ vs18=>(c 783 vs18))>>=λ zz=>(kk4 (kvSet lc3 (nm "at") v5)))))
noncomputable def wKont (c:CC):Lc→PM AV:=(λ lc3=>(((seqA [lk lc3 (nm "state"),(pure (.str [41]))]>>=λ vs19=>(c 776 vs19)))>>=λ x20=>((lk lc3 (nm "thing"))>>=λ v21=>(setItemA v21 (.int 2) x20>>=λ zz=>(pure .none)))))
theorem cmpA_gt (a b:Int):cmpA .Gt (.int a) (.int b)=pure (decide (b < a)):=rfl
theorem Lw_set {i s st:Nat} {o:Lc} {v:AV} (ho:o=[]∨∃ a,o=[(nm "at",a)]):kvSet (Lw i s st o) (nm "at") v=Lw i s st [(nm "at",v)]:=by
 unfold Lw
 rcases ho with rfl | ⟨a,rfl⟩<;>simp [kvSet,nm_inj]
theorem W_item {c:CC} {i j s st k:Nat} {kk:Lc→PM AV} {vsAll:List AV} {v x y:AV} (h1:σ[i]? = some (.list [.obj j,x,y])) (h2:σ[j]? = some (.list vsAll)) (hk:vsAll[k]? = some v)
  (w:W (c 783 [.obj s,v,.obj st]) (λ zz σ'=>W (kk (Lw i s st [(nm "at",.int k)])) Q E σ') E σ):
  W ((seqA [lk (Lw i s st [(nm "at",.int k)]) (nm "source"),((((lk (Lw i s st [(nm "at",.int k)]) (nm "thing"))>>=λ v11=>(subA v11 (.int 0))))>>=λ v12=>((lk (Lw i s st [(nm "at",.int k)]) (nm "at"))>>=λ v13=>(subA v12 v13))),lk (Lw i s st [(nm "at",.int k)]) (nm "state")]>>=λ vs14=>(c 783 vs14))>>=λ zz=>(kk (Lw i s st [(nm "at",.int k)]))) Q E σ:=by
 have hl:=(List.getElem?_eq_some_iff.mp hk).1
 have hp:placeOf (k:Int) vsAll.length=some k:=by simp [placeOf];lia
 simp only [W_bind,W_seqA_cons,W_seqA_nil,W_lk,W_subA_list]
 refine⟨_,rfl,_,rfl,?_⟩
 refine W.subAL ?_
 refine⟨_,h1,.obj j,by rw [(rfl:placeOf 0 [AV.obj j,x,y].length=some 0)];rfl,_,rfl,?_⟩
 refine W.subAL ?_
 exact⟨_,h2,v,by rw [hp];exact hk,_,rfl,w⟩
theorem W_body0 {c:CC} {fuel i j s st:Nat} {o:Lc} {kk:Lc→PM AV} {vsAll:List AV} {v x y:AV} (ho:o=[]∨∃ a,o=[(nm "at",a)]) (h1:σ[i]? = some (.list [.obj j,x,y])) (h2:σ[j]? = some (.list vsAll)) (hk:vsAll[0]? = some v)
  (w:W (c 783 [.obj s,v,.obj st]) (λ zz σ'=>W (kk (Lw i s st [(nm "at",.int (0:Nat))])) Q E σ') E σ):W (wBody c fuel (.int (0:Nat)) (Lw i s st o) kk) Q E σ:=by
 unfold wBody
 refine rwg (Lw_set ho ..) ?_
 exact W_item h1 h2 hk w
theorem W_body1 {c:CC} {fuel i j s st k:Nat} {o:Lc} {kk:Lc→PM AV} {vsAll:List AV} {v x y:AV} (ho:o=[]∨∃ a,o=[(nm "at",a)])
  (w:W (c 769 [.obj s,.obj st]) (λ zz σ=>(σ[i]? = some (.list [.obj j,x,y])∧σ[j]? = some (.list vsAll)∧vsAll[k + 1]? = some v)∧W (c 783 [.obj s,v,.obj st]) (λ zz σ'=>W (kk (Lw i s st [(nm "at",.int (k + 1:Nat))])) Q E σ') E σ) E σ):W (wBody c fuel (.int (k + 1:Nat)) (Lw i s st o) kk) Q E σ:=by
 unfold wBody
 refine rwg (Lw_set ho ..) ?_
 have e:(cmpA .Gt (.int (k + 1:Nat)) (.int 0))=pure true:=by
  have:decide ((0:Int) < ((k + 1:Nat):Int))=true:=by simp
  refine rwg (cmpA_gt ..) ?_
  refine rwg (this ..) rfl
 show W (((cmpA .Gt (.int (k + 1:Nat)) (.int 0))>>=_) ) Q E σ
 refine rwg (e ..) ?_
 refine rwg (PM.pure_bind ..) ?_
 dsimp only
 refine W.bind ?_
 show W (c 769 [.obj s,.obj st]) _ E σ
 exact w.mono (λ a σ' h=>W_item h.1.1 h.1.2.1 h.1.2.2 h.2) λ zz zz h=>h
mutual
theorem W_written {fuel s st:Nat} (hf:100000≤fuel) (hne:s≠st):∀ (t:Th) {d:Nat} {σ:AH} {P:Nat→Prop} {v:AV} {p g:List Nat} {Q E:AV→AH→Prop},hg t + 4≤d→wok allWs t→RepT σ P v t→¬ P s→¬ P st→St st (p++g) σ→Sr s σ→g.length≤4→p.length + wt t≤90000 →
  (∀ (t':Tr PP) σ',er t'=t→gapW t'=g→gk t'→wp (ps p) t'→RepA hdP σ' P v t'→Kp (λ x=>P x∨x=s∨x=st) σ σ'→Sr s σ'→St st (p++tx t') σ'→(tx t').length≤wt t→Q .none σ')→W (callF tb0 fuel d 783 [.obj s,v,.obj st]) Q E σ
 | .w w,d,σ,P,v,p,g,Q,E,hd,hw,r,n1,n2,h,hs,hg,hl,q=>by
  obtain⟨d,rfl⟩:=Nat.exists_eq_add_of_le' (show 1≤d by lia)
  simp only [RepT] at r
  subst r
  simp only [wok] at hw
  simp only [wt] at hl
  have a:=allWs_len w hw
  refine W.rw (den_783 ..) ?_
  unfold D783
  simp only [W_bind]
  refine (W_isStr_w ..).mpr ((W_truth ..).mpr ?_)
  dsimp only
  refine W.bind ?_
  refine W_put (by lia) h a.2 (by simp;lia) λ σ' h1 k1 l1=>?_
  refine W.ret ?_
  refine q (.w g w) σ' rfl rfl (by simp only [gk]) (by simp only [wp]) (by simp only [RepA]) (k1.mono λ i zz e=>.inr (.inr e)) ?_ (by simpa only [tx,List.append_assoc] using h1) (by simp only [tx,wt,List.length_append];lia)
  obtain⟨x,y,hs⟩:=hs
  exact⟨x,y,k1.get1 hne hs⟩
 | .l ts,d,σ,P,v,p,g,Q,E,hd,hw,r,n1,n2,h,hs,hg,hl,q=>by
  simp only [RepT] at r
  obtain⟨i,j,vs,rfl,pi,pj,ij,ei,ej,r⟩:=r
  simp only [wok] at hw
  simp only [wt] at hl
  simp only [Mine.hg] at hd
  obtain⟨d,rfl⟩:=Nat.exists_eq_add_of_le' (show 1≤d by lia)
  have is:i≠s:=λ e=>n1 (e▸pi)
  have ist:i≠st:=λ e=>n2 (e▸pi)
  have js:j≠s:=λ e=>n1 (e▸pj)
  have jst:j≠st:=λ e=>n2 (e▸pj)
  refine W.rw (den_783 ..) ?_
  unfold D783
  simp only [W_bind]
  refine (W_isStr_o ei).mpr ((W_truth ..).mpr ?_)
  dsimp only
  refine W.bind ?_
  refine W_put (by lia) h (by simp) (by simp;lia) λ σ₁ h1 k1 l1=>?_
  have e1:σ₁[i]? = _:=k1.get1 ist ei
  have f1:σ₁[j]? = _:=k1.get1 jst ej
  unfold K783_2
  refine W.bind ((W_setItem_list ..).mpr ?_)
  refine⟨_,e1,by simp,?_⟩
  have e2:(σ₁.set i (.list [.obj j,pT (ps (p++g)),.none]))[i]? = _:=get_set_self e1
  have k2:Kp (λ x=>x=i) σ₁ (σ₁.set i (.list [.obj j,pT (ps (p++g)),.none])):=.set _ rfl
  have h2:St st (p++g++[40]) (σ₁.set i (.list [.obj j,pT (ps (p++g)),.none])):=k2.2 _ _ (λ e=>ist e.symm) h1
  have s2:Sr s (σ₁.set i (.list [.obj j,pT (ps (p++g)),.none])):=by
   obtain⟨x,y,hs⟩:=hs
   exact⟨x,y,k2.2 _ _ (λ e=>is e.symm) (k1.get1 hne hs)⟩
  have f2:(σ₁.set i (.list [.obj j,pT (ps (p++g)),.none]))[j]? = _:=k2.2 _ _ (λ e=>ij e.symm) f1
  have K2:=(k1.mono (P':=λ x=>x=st∨x=i) λ zz zz e=>.inl e).trans (k2.mono (P':=λ x=>x=st∨x=i) λ zz zz e=>.inr e)
  show W _ _ _ (σ₁.set i (.list [.obj j,pT (ps (p++g)),.none]))
  generalize (σ₁.set i (.list [.obj j,pT (ps (p++g)),.none]))=σ₂ at *
  have rl:=r.length
  have tl:ts.length≤wts ts:=by
   have:OkTs (wts ts) (hgs ts) ts:=⟨hw,Nat.le_refl _,Nat.le_refl _⟩
   exact this.length
  refine W.bind ?_
  simp only [W_seqA_cons,W_seqA_nil,W_bind]
  refine W.subAL ?_
  refine⟨_,e2,.obj j,rfl,?_⟩
  refine (W_len_obj ..).mpr ?_
  refine⟨_,f2,?_⟩
  refine (W_range1 ..).mpr ?_
  refine⟨by unfold smallI;simp;lia,?_⟩
  refine (W_srcR ..).mpr ?_
  refine⟨by unfold maxLen;lia,?_⟩
  have r2:=r.keepF K2 (λ x p e=>by rcases e with rfl | rfl;exact n2 p.1;exact p.2.1 rfl)
  refine W_writtenL hf hne ts (i:=i) (j:=j) (σ:=σ₂) (P:=(λ x=>P x∧x≠i∧x≠j)) (rest:=vs) (vsAll:=vs) (p:=p++g++[40]) (k:=0) (n:=fuel) (o:=[]) (x:=pT (ps (p++g))) (y:=.none) (show hgs ts + 4≤d by lia) hw r2 (λ e=>n1 e.1) (λ e=>n2 e.1) (λ e=>e.2.1 rfl) (λ e=>e.2.2 rfl) is ist js jst h2 s2 e2 f2 (by simp) (by simp;lia) (by lia) (.inl rfl) λ ts' σ₃ o' q1 q2 q3 q4 k3 s3 h3 l3 ho=>?_
  have e3:σ₃[i]? = _:=k3.2 _ _ (λ e=>by rcases e with e | rfl | rfl;exact e.2.1 rfl;exact is rfl;exact ist rfl) e2
  have f3:σ₃[j]? = _:=k3.2 _ _ (λ e=>by rcases e with e | rfl | rfl;exact e.2.2 rfl;exact js rfl;exact jst rfl) f2
  unfold wKont
  simp only [W_bind,W_seqA_cons,W_seqA_nil,W_pure,W_lk]
  refine⟨.obj st,rfl,?_⟩
  refine W_put (by lia) h3 (by simp) (by simp;lia) λ σ₄ h4 k4 l4=>?_
  refine⟨.obj i,rfl,?_⟩
  have e4:σ₄[i]? = _:=k4.get1 ist e3
  have f4:σ₄[j]? = _:=k4.get1 jst f3
  refine (W_setItem_list ..).mpr ?_
  refine⟨_,e4,by simp,?_⟩
  have k5:Kp (λ x=>x=i) σ₄ (σ₄.set i (.list [.obj j,pT (ps (p++g)),pT (ps (p++g++[40]++txs ts'))])):=.set _ rfl
  have e5:(σ₄.set i (.list [.obj j,pT (ps (p++g)),pT (ps (p++g++[40]++txs ts'))]))[i]? = _:=get_set_self e4
  show Q .none (σ₄.set i (.list [.obj j,pT (ps (p++g)),pT (ps (p++g++[40]++txs ts'))]))
  generalize (σ₄.set i (.list [.obj j,pT (ps (p++g)),pT (ps (p++g++[40]++txs ts'))]))=σ₅ at *
  refine q (.l g (ps (p++g),ps (p++g++[40]++txs ts')) ts') σ₅ (by simp only [er,q1]) rfl (by simp only [gk];exact q2) ?_ ?_ ?_ ?_ ?_ ?_
  ·simp only [wp]
   refine⟨by rw [ps_app],by rw [ps_app,List.append_assoc,ps_app],?_⟩
   rw [List.append_assoc,ps_app] at q3
   exact q3
  ·simp only [RepA]
   refine⟨i,j,vs,rfl,pi,pj,ij,e5,k5.2 _ _ (λ e=>ij e.symm) f4,?_⟩
   exact (q4.keep k4 λ x p e=>n2 (e▸p.1)).keep k5 λ x p e=>p.2.1 e
  ·refine ((K2.mono λ x zz e=>?_).trans (k3.mono λ x zz e=>?_)).trans ((k4.mono λ x zz e=>?_).trans (k5.mono λ x zz e=>?_))
   ·rcases e with rfl | rfl
    ·exact .inr (.inr rfl)
    ·exact .inl pi
   ·rcases e with e | e
    ·exact .inl e.1
    ·exact .inr e
   ·exact .inr (.inr e)
   ·exact .inl (e▸pi)
  ·obtain⟨x,y,s3⟩:=s3
   exact⟨x,y,k5.2 _ _ (λ e=>is e.symm) (k4.get1 hne s3)⟩
  ·have:=k5.2 _ _ (λ e=>ist e.symm) h4
   simpa only [St,tx,List.append_assoc] using this
  ·simp only [tx,wt,List.length_append]
   simp;lia
theorem W_writtenL {fuel s st:Nat} (hf:100000≤fuel) (hne:s≠st):∀ (ts:List Th) {d:Nat} {σ:AH} {P:Nat→Prop} {rest vsAll:List AV} {p:List Nat} {k n i j:Nat} {o:Lc} {x y:AV} {Q E:AV→AH→Prop},hgs ts + 4≤d→woks allWs ts→RepTs σ P rest ts→¬ P s→¬ P st→¬ P i→¬ P j→i≠s→i≠st→j≠s→j≠st→St st p σ→Sr s σ→σ[i]? = some (.list [.obj j,x,y])→σ[j]? = some (.list vsAll)→vsAll.drop k=rest→p.length + wts ts≤90000→ts.length < n→(o=[]∨∃ a,o=[(nm "at",a)]) →
  (∀ (ts':List (Tr PP)) σ' o',ers ts'=ts→gks (k == 0) ts'→wps (ps p) ts'→RepAs hdP σ' P rest ts'→Kp (λ x=>P x∨x=s∨x=st) σ σ'→Sr s σ'→St st (p++txs ts') σ'→(txs ts').length≤wts ts→(o'=[]∨∃ a,o'=[(nm "at",a)])→W (wKont (callF tb0 fuel d) (Lw i s st o')) Q E σ')→W (forN (wBody (callF tb0 fuel d) fuel) (wKont (callF tb0 fuel d)) (.items (rangeA 0 vsAll.length)) n k (Lw i s st o)) Q E σ
 | [],d,σ,P,rest,vsAll,p,k,n,i,j,o,x,y,Q,E,hd,hw,r,n1,n2,n3,n4,is,ist,js,jst,h,hs,e,f,hr,hl,hn,ho,q=>by
  simp only [RepTs] at r
  subst r
  obtain⟨n,rfl⟩:=Nat.exists_eq_add_of_le' (show 1≤n by lia)
  refine (W_forN ..).mpr ?_
  refine⟨_,nextA_items _ _,?_⟩
  have:vsAll.length≤k:=by simpa using hr
  rw [List.getElem?_eq_none (by simpa [rangeA] using this)]
  exact q [] σ o rfl (by simp only [gks]) (by simp only [wps]) (by simp only [RepAs]) (.refl _) hs (by simpa only [txs,List.append_nil] using h) (by simp [txs]) ho
 | t :: ts,d,σ,P,rest,vsAll,p,k,n,i,j,o,x,y,Q,E,hd,hw,r,n1,n2,n3,n4,is,ist,js,jst,h,hs,e,f,hr,hl,hn,ho,q=>by
  simp only [RepTs] at r
  obtain⟨P1,v,r',rfl,rt,rr⟩:=r
  obtain⟨n,rfl⟩:=Nat.exists_eq_add_of_le' (show 1≤n by lia)
  simp only [hgs] at hd
  simp only [wts] at hl
  simp only [woks] at hw
  have hk:k < vsAll.length:=by
   have:=congrArg List.length hr
   simp at this;lia
  have hv:vsAll[k]? = some v:=by
   have:=congrArg (λ l=>l[0]?) hr
   simpa using this
  have hr':vsAll.drop (k + 1)=r':=by
   have:=congrArg List.tail hr
   simpa using this
  refine (W_forN ..).mpr ?_
  refine⟨_,nextA_items _ _,?_⟩
  have hrk:(rangeA 0 (vsAll.length:Int))[k]? = some (.int (k:Nat)):=by
   simp [rangeA,hk]
  rw [hrk]
  dsimp only
  have part:∀ (g:List Nat) (σ₁:AH),St st (p++g) σ₁→Sr s σ₁→Kp (λ x=>x=s∨x=st) σ σ₁→g.length≤4→(if (k == 0)=true then g=[] else g∈gaps)→W (callF tb0 fuel d 783 [.obj s,v,.obj st]) (λ zz σ'=>W (forN (wBody (callF tb0 fuel d) fuel) (wKont (callF tb0 fuel d)) (.items (rangeA 0 vsAll.length)) n (k + 1) (Lw i s st [(nm "at",.int (k:Nat))])) Q E σ') E σ₁:=by
   intro g σ₁ h1 s1 k1 hg hgk
   have fs:∀ x,P x→(x=s∨x=st)→False:=λ x p e=>by rcases e with rfl | rfl;exact n1 p;exact n2 p
   refine W_written hf hne t (P:=λ x=>P x∧P1 x) (p:=p) (g:=g) (by lia) hw.1 (rt.keepF k1 λ x p=>fs x p.1) (λ e=>n1 e.1) (λ e=>n2 e.1) h1 s1 hg (by lia) λ t' σ₂ q1 q2 q3 q4 q5 k2 s2 h2 l2=>?_
   have nin:∀ y,¬ P y→y≠s→y≠st→¬ ((P y∧P1 y)∨y=s∨y=st):=λ y a b c e=>by rcases e with e | e | e;exact a e.1;exact b e;exact c e
   refine W_writtenL hf hne ts (P:=λ x=>P x∧¬ P1 x) (rest:=r') (p:=p++tx t') (x:=x) (y:=y) (by lia) hw.2 ((rr.keepF k1 λ x p=>fs x p.1).keepF k2 λ x p e=>?_) (λ e=>n1 e.1) (λ e=>n2 e.1) (λ e=>n3 e.1) (λ e=>n4 e.1) is ist js jst h2 s2 (k2.2 _ _ (nin _ n3 is ist) (k1.2 _ _ (λ e=>by rcases e with e | e;exact is e;exact ist e) e)) (k2.2 _ _ (nin _ n4 js jst) (k1.2 _ _ (λ e=>by rcases e with e | e;exact js e;exact jst e) f)) hr' (by simp;lia) (by simp at hn;lia) (.inr ⟨_,rfl⟩) λ ts' σ₃ o' p1 p2 p3 p4 k3 s3 h3 l3 ho'=>?_
   ·rcases e with e | e
    ·exact p.2 e.2
    ·exact fs x p.1 e
   ·refine q (t' :: ts') σ₃ o' (by simp only [ers,q1,p1]) ?_ ?_ ?_ ?_ s3 ?_ ?_ ho'
    ·simp only [gks]
     exact⟨by rw [q2];exact hgk,q3,p2⟩
    ·simp only [wps]
     exact⟨q4,by rw [← ps_app];exact p3⟩
    ·simp only [RepAs]
     exact⟨P1,v,r',rfl,q5.keep k3 λ x p e=>by rcases e with e | e;exact e.2 p.2;exact fs x p.1 e,p4⟩
    ·refine (k1.mono λ x zz e=>.inr e).trans ((k2.mono λ x zz e=>?_).trans (k3.mono λ x zz e=>?_))
     ·rcases e with e | e
      ·exact .inl e.1
      ·exact .inr e
     ·rcases e with e | e
      ·exact .inl e.1
      ·exact .inr e
    ·simpa only [txs,List.append_assoc] using h3
    ·simp only [txs,wts,List.length_append];lia
  match k,hk,hv,hr',part with
  | 0,hk,hv,hr',part=>
   exact W_body0 ho e f hv (part [] σ (by simpa using h) hs (.refl _) (by simp) (by simp))
  | k + 1,hk,hv,hr',part=>
   refine W_body1 (j:=j) (x:=x) (y:=y) (vsAll:=vsAll) (v:=v) ho (W_gap (by lia) h hs hne (by lia) λ g σ₁ hg h1 s1 k1=>⟨⟨k1.2 _ _ (λ e=>by rcases e with e | e;exact is e;exact ist e) e,k1.2 _ _ (λ e=>by rcases e with e | e;exact js e;exact jst e) f,hv⟩,part g σ₁ h1 s1 k1 (gaps_len g hg) (by simpa using hg)⟩)
end
end
section
variable {σ σ' σ₀:AH} {fuel d sc ou wt i j:Nat} {T p:List Nat} {q:Pos} {vs below:List AV}
mutual
noncomputable def fw:Tr PP→Option PP
 | .w zz zy=>none
 | .l zz ab ts=>match fws ts with
  | some x=>some x
  | none=>match (itsO (ers ts)).bind kd with
   | some zz=>none
   | none=>some ab
noncomputable def fws:List (Tr PP)→Option PP
 | []=>none
 | t :: r=>match fw t with
  | some x=>some x
  | none=>fws r
end
mutual
noncomputable def fwP:Pos→Tr PP→Option PP
 | zz,.w zy zx=>none
 | q,.l g zz ts=>match fwPs (psF q (g++[40])) ts with
  | some x=>some x
  | none=>match (itsO (ers ts)).bind kd with
   | some zz=>none
   | none=>some (psF q g,psF (psF q (g++[40])) (txs ts))
noncomputable def fwPs:Pos→List (Tr PP)→Option PP
 | zz,[]=>none
 | q,t :: r=>match fwP q t with
  | some x=>some x
  | none=>fwPs (psF q (tx t)) r
end
mutual
theorem fwP_eq:∀ {t:Tr PP} {q:Pos},wp q t→fwP q t=fw t
 | .w zz zy,q,h=>by simp only [fwP,fw]
 | .l g (a,b) ts,q,h=>by
  simp only [wp] at h
  simp only [fwP,fw]
  refine rwg (fwPs_eq h.2.2 ..) ?_
  refine rwb (h.1 ..) ?_
  refine rwb (h.2.1 ..) rfl
theorem fwPs_eq:∀ {ts:List (Tr PP)} {q:Pos},wps q ts→fwPs q ts=fws ts
 | [],q,h=>by simp only [fwPs,fws]
 | t :: r,q,h=>by
  simp only [wps] at h
  simp only [fwPs,fws]
  refine rwg (fwP_eq h.1 ..) ?_
  refine rwg (fwPs_eq h.2 ..) rfl
end
mutual
theorem fwP_it:∀ {t:Tr PP} {q:Pos},(fwP q t).isNone=(itO (er t)).isSome
 | .w zz zy,q=>by dsimp only [fwP,er,itO];rfl
 | .l g ab ts,q=>by
  have ih:=fwPs_it (ts:=ts) (q:=psF q (g++[40]))
  dsimp only [fwP,er,itO]
  cases hf:fwPs (psF q (g++[40])) ts with
  | some x=>
   rw [hf] at ih
   cases hi:itsO (ers ts) with
   | none=>rfl
   | some is=>rw [hi] at ih;cases ih
  | none=>
   dsimp only
   cases (itsO (ers ts)).bind kd<;>rfl
theorem fwPs_it:∀ {ts:List (Tr PP)} {q:Pos},(fwPs q ts).isNone=(itsO (ers ts)).isSome
 | [],q=>by dsimp only [fwPs,ers,itsO];rfl
 | t :: r,q=>by
  have ih:=fwP_it (t:=t) (q:=q)
  have ih2:=fwPs_it (ts:=r) (q:=psF q (tx t))
  dsimp only [fwPs,ers,itsO]
  cases hf:fwP q t with
  | some x=>
   rw [hf] at ih
   cases hi:itO (er t) with
   | none=>rfl
   | some is=>rw [hi] at ih;cases ih
  | none=>
   rw [hf] at ih
   cases hi:itO (er t) with
   | none=>rw [hi] at ih;cases ih
   | some is=>
    show (fwPs (psF q (tx t)) r).isNone=((itsO (ers r)).map (is :: ·)).isSome
    refine rwg (ih2 ..) ?_
    cases itsO (ers r)<;>rfl
end
mutual
noncomputable def tkn:Tr PP→Nat
 | .w zz zy=>1
 | .l zz zy ts=>tkns ts + 2
noncomputable def tkns:List (Tr PP)→Nat
 | []=>0
 | t :: r=>tkn t + tkns r
end
theorem allWs_plain:∀ w∈allWs,plainW w=true∨w=[124,97,32,98,124]:=by
 have:allWs.all (λ w=>plainW w || decide (w=[124,97,32,98,124]))=true:=by decide +kernel
 intro w hw
 have:=List.all_eq_true.mp this w hw
 rcases Bool.or_eq_true_iff.mp this with h | h
 ·exact .inl h
 ·exact .inr (of_decide_eq_true h)
theorem num_bound {w:List Nat} {n:Int} (h:lookW intWords w=some n):n=5∨n=97∨n < 0∨1114112≤n:=by
 have key:∀ l:List (List Nat×Int),l.all (λ x=>decide (x.2=5∨x.2=97∨x.2 < 0∨1114112≤x.2))=true→lookW l w=some n→n=5∨n=97∨n < 0∨1114112≤n:=by
  intro l
  induction l with
  | nil=>intro _ h;cases h
  | cons x r ih=>
   intro ha h
   obtain⟨h1,h2⟩:=Bool.and_eq_true_iff.mp ha
   unfold lookW at h
   by_cases hx:x.1=w
   ·rw [if_pos hx] at h
    clear ih ha h2 r
    cases h
    exact of_decide_eq_true h1
   ·rw [if_neg hx] at h
    exact ih h2 h
 exact key intWords (by decide) h
theorem tok_any {w:List Nat} (hw:w∈allWs) (pl:AV):∃ k v,((plainW w=true∧oTok w pl=oWord k v pl)∨(w=[124,97,32,98,124]∧k=sName∧v = .str [97,32,98]))∧(k≠sEnd∧k≠[40]∧k≠[41])∧∀ (R:Pos→Prop) (n:Nat) (σ:AH) (i:Nat),n≤i→σ[i]? = some (oWord k v pl)→RepI R n σ (.obj i) (itW w):=by
 rcases allWs_plain w hw with h | rfl
 ·unfold oTok itW
  by_cases hk:w∈keyWs
  ·refine rwg (if_pos hk ..) ?_
   exact⟨sKey,.str w,.inl ⟨h,rfl⟩,by decide,λ R n σ i a e=>.key a e⟩
  ·refine rwg (if_neg hk ..) ?_
   cases hl:lookW intWords w with
   | none=>exact⟨sName,.str w,.inl ⟨h,rfl⟩,by decide,λ R n σ i a e=>.name a e⟩
   | some m=>exact⟨sNum,.int m,.inl ⟨h,rfl⟩,by decide,λ R n σ i a e=>.num a (num_bound hl) e⟩
 ·exact⟨sName,.str [97,32,98],.inr ⟨rfl,rfl,rfl⟩,by decide,λ R n σ i a e=>.name a e⟩
theorem word_any {w g rest:List Nat} (hf:10000≤fuel) (hw:w∈allWs) (hr:∀ c r,rest=c :: r→c∈endsL) (hT:T=p++(g++(w++rest))) (hl:T.length≤1000000) (hg:∀ c∈g,c∈blanks) (h:σ[sc]? = some (oScan T p)) (hn:g.length < fuel):
  ∃ k v,WR fuel d sc T (p++g++w) (oWord k v (pT (ps (p++g)))) σ∧(k≠sEnd∧k≠[40]∧k≠[41])∧∀ (R:Pos→Prop) (n:Nat) (σ:AH) (i:Nat),n≤i→σ[i]? = some (oWord k v (pT (ps (p++g))))→RepI R n σ (.obj i) (itW w):=by
 refine ex23 (tok_any hw (pT (ps (p++g)))) λ k v h1 h2 h3=>?_
 refine⟨k,v,?_,h2,h3⟩
 clear hw h3 h2
 rcases h1 with ⟨a,b⟩ | ⟨rfl,rfl,rfl⟩
 ·refine rwb (b ..) ?_
  exact word_plain hf a hr hT hl hg h hn
 ·exact word_quote (s:=[97,32,98]) (rest:=rest) (by intro c hc;simp at hc;rcases hc with rfl | rfl | rfl<;>decide) (by decide) (by decide) hf hT hg h hn
noncomputable def gapOk (g:List Nat):Prop:=(∀ c∈g,c∈blanks)∧g.length≤4
theorem gaps_ok {g:List Nat} (h:g∈gaps):gapOk g∧∃ c r,g=c :: r∧c∈endsL:=by
 simp only [gaps,List.mem_cons,List.not_mem_nil,or_false] at h
 rcases h with rfl | rfl | rfl | rfl<;>exact⟨⟨by decide,by decide⟩,_,_,rfl,by decide⟩
theorem nil_gap:gapOk []:=⟨λ c h=>(nomatch h),by decide⟩
inductive TrR (c:CC) (fuel:Nat) (T p:List Nat) (sc ou wt:Nat) (below:List AV) (i j:Nat) (q:Pos) (vs:List AV) (N0 m k:Nat) (o:Lc) (σ:AH) (e:List Nat) (F:Option PP) (I:Option (List It)):Prop
 | good (h:F=none) {is:List It} (hi:I=some is) {us:List AV} {σ':AH} {o':Lc} (ho:o'=[]∨∃ v,o'=[(nm "ended",v)]) (eq:rwGo c fuel T sc ou wt (m + k) o σ=rwGo c fuel T sc ou wt m o' σ') (S:Stk σ' T (p++e) sc wt below i j q (vs++us))
   (x:RepIs (λ r=>leP (ps p) r∧leP r (ps (p++e))) N0 σ' us is) (kp:Kp (λ x=>x=sc∨x=wt∨x=j) σ σ')
 | bad {ab:PP} (h:F=some ab) {r:Pos} {σ':AH} (eq:rwGo c fuel T sc ou wt (m + k) o σ=some (.error (pT r),σ')) (h1:leP ab.1 r) (h2:leP r ab.2) (kp:Kp (λ x=>x=sc∨x=wt∨x=j) σ σ')
theorem leP_app (a b:List Nat):leP (ps a) (ps (a++b)):=by rw [ps_app];exact leP_psF _ _
theorem kd_key {is:List It} {w:List Nat} (h:kd is=some (.key w)):False:=(kd_form h).elim (λ q=>no_ft q) λ q=>no_ft q
theorem it_key:∀ {t:Th} {w:List Nat},itO t=some (.key w)→w∈keyWs
 | .w s,w,h=>by
  have h:itW s = .key w:=Option.some.inj (by simpa only [itO] using h)
  unfold itW at h
  by_cases hs:s∈keyWs
  ·rw [if_pos hs] at h;cases h;exact hs
  ·rw [if_neg hs] at h
   cases hl:lookW intWords s with
   | none=>rw [hl] at h;cases h
   | some n=>rw [hl] at h;cases h
 | .l ts,w,h=>by
  simp only [itO] at h
  refine ex12 (Option.bind_eq_some_iff.mp h) λ is zz h=>?_
  exact (kd_key h).elim
theorem its_key {ts:List Th} {is:List It} (h:itsO ts=some is):∀ w r,is = .key w :: r→w∈keyWs:=λ w r e=>by
 cases ts with
 | nil=>simp only [itsO] at h;cases h;cases e
 | cons t r'=>
  simp only [itsO] at h
  refine ex12 (Option.bind_eq_some_iff.mp h) λ i hi h=>?_
  refine ex12 (Option.map_eq_some_iff.mp h) λ is' zz h=>?_
  rw [e] at h
  cases h
  exact it_key hi
theorem its_len:∀ {ts:List (Tr PP)} {is:List It},itsO (ers ts)=some is→is.length≤tkns ts
 | [],is,h=>by dsimp only [ers,itsO] at h;cases h;exact Nat.zero_le _
 | t :: r,is,h=>by
  dsimp only [ers,itsO] at h
  refine ex12 (Option.bind_eq_some_iff.mp h) λ i hi h=>?_
  clear hi
  refine ex12 (Option.map_eq_some_iff.mp h) λ is' h2 rr2=>?_
  clear h
  subst rr2
  have:=its_len h2
  have:1≤tkn t:=by cases t<;>simp only [tkn]<;>lia
  simp only [tkns,List.length_cons];lia
theorem bra_start {r:List Nat}:∀ c r',41 :: r=c :: r'→c∈endsL:=λ c r' e=>by cases e;decide
theorem Kp.app2 {σ₁ σ₂:AH} {j2:Nat} (k:Kp (λ x=>x=sc∨x=wt) σ σ₁) (k2:Kp (λ x=>x=sc∨x=wt∨x=j2) σ₁ σ₂) (h:σ.length≤j2):Kp (λ x=>x=sc∨x=wt∨x=j) σ σ₂:=
 ⟨Nat.le_trans k.1 k2.1,λ x o n e=>k2.2 x o (λ z=>by rcases z with z | z | z;exact n (.inl z);exact n (.inr (.inl z));have:=lt_of_get e;lia) (k.2 x o (λ z=>n (z.elim .inl λ z=>.inr (.inl z))) e)⟩
mutual
theorem read_tree (hf:10000≤fuel) (hl:T.length≤1000000):∀ (t:Tr PP) {p rest:List Nat} {below vs:List AV} {i j N0 m:Nat} {q:Pos} {o:Lc} {σ:AH},gapOk (gapW t)→gk t→wok allWs (er t)→T=p++(tx t++rest)→(∀ c r,rest=c :: r→c∈endsL)→Stk σ T p sc wt below i j q vs→(o=[]∨∃ v,o=[(nm "ended",v)])→N0≤σ.length→vs.length + tkn t≤9000→below.length + tkn t≤9000→wt < N0→j < N0 →
  TrR (callF tb0 fuel (d + 7)) fuel T p sc ou wt below i j q vs N0 m (tkn t) o σ (tx t) (fwP (ps p) t) ((itO (er t)).map λ x=>[x])
 | .w g w,p,rest,below,vs,i,j,N0,m,q,o,σ,hg,hk,hw,hT,hr,S,ho,hN,h1,h2,hwj,hjN=>by
  simp only [er,wok] at hw
  simp only [gapW] at hg
  simp only [tkn] at h1 h2
  have hT':T=p++(g++(w++rest)):=by rw [hT];simp only [tx,List.append_assoc]
  obtain⟨k,v,W,hk,hrep⟩:=word_any (d:=d + 4) hf hw hr hT' hl hg.1 S.s (by have:=hg.2;lia)
  obtain⟨σ',wi,e,S',kp,hwi,hh⟩:=step_word (ou:=ou) (n:=m) (o:=o) S W hk.1 hk.2.1 hk.2.2 (by lia)
  simp only [tx,er,itO,fwP,tkn]
  exact .good rfl rfl ho e (by rw [← List.append_assoc];exact S') (.cons (hrep _ _ _ _ (Nat.le_trans hN hwi) hh) .nil) (kp.mono λ zz zz z=>z.elim .inl λ z=>.inr (.inr z))
 | .l g ab ts,p,rest,below,vs,i,j,N0,m,q,o,σ,hg,hk,hw,hT,hr,S,ho,hN,h1,h2,hwj,hjN=>by
  simp only [er,wok] at hw
  simp only [gapW] at hg
  simp only [gk] at hk
  simp only [tkn] at h1 h2
  have hT1:T=p++(g++40 :: (txs ts++41 :: rest)):=by rw [hT];simp only [tx,List.append_assoc,List.cons_append,List.nil_append]
  have W1:=word_bra (fuel:=fuel) (d:=d + 4) (.inl rfl) hT1 hg.1 S.s (by have:=hg.2;lia)
  obtain⟨σ₁,i2,j2,e1,S1,O1,kp1,l1,l2,l3,l4⟩:=step_open (ou:=ou) (n:=m + 1 + tkns ts) (o:=o) S W1 (by lia)
  have hT2:T=(p++g++[40])++(txs ts++41 :: rest):=by rw [hT1];simp only [List.append_assoc,List.cons_append,List.nil_append]
  have wl:=lt_of_get S.w
  have sl:=lt_of_get S.s
  have ol:=lt_of_get S.O.l
  have key:=read_trees hf hl ts (m:=m + 1) (o:=o) (N0:=σ₁.length) (b0:=true) hk hw hT2 bra_start S1 ho (Nat.le_refl _) (by show 0 + tkns ts≤9000;lia) (by rw [List.length_append];show below.length + 1 + tkns ts≤9000;lia) (by lia) (by lia) (by have:=kp1.1;lia)
  have em:m + (tkns ts + 2)=m + 1 + tkns ts + 1:=by lia
  simp only [tkn]
  rw [show tx (.l g ab ts)=g++([40]++(txs ts++[41])) by simp only [tx]]
  have ef:fwP (ps p) (.l g ab ts)=match fwPs (ps (p++g++[40])) ts with
   | some x=>some x
   | none=>match (itsO (ers ts)).bind kd with
    | some zz=>none
    | none=>some (ps (p++g),ps (p++g++[40]++txs ts)):=by simp only [fwP];rw [← ps_app,← ps_app,← ps_app,← List.append_assoc]
  have ei:itO (er (.l g ab ts))=(itsO (ers ts)).bind kd:=by simp only [er,itO]
  rw [ef,ei]
  cases key with
  | bad h eq b1 b2 kp=>
   rw [h]
   exact .bad rfl (by rw [em];exact e1.trans eq) b1 b2 (kp1.app2 kp l2)
  | @good h is hi us σ₂ o2 ho2 eq S2 x kp=>
   rw [h,hi]
   dsimp only [Option.bind_some]
   have nij2:i≠j2:=by have:=lt_of_get S.O.h;lia
   have njj2:j≠j2:=by lia
   have nis:i≠sc:=ne_of_get S.O.h S.s (λ e=>nomatch e)
   have niw:i≠wt:=ne_of_get S.O.h S.w (λ e=>nomatch e)
   have njs:j≠sc:=ne_of_get S.O.l S.s (λ e=>nomatch e)
   have O2:Opn σ₂ i j q vs:=⟨kp.2 _ _ (λ z=>by rcases z with z | z | z;exact nis z;exact niw z;exact nij2 z) O1.h,kp.2 _ _ (λ z=>by rcases z with z | z | z;exact njs z;exact S.n z.symm;exact njj2 z) O1.l⟩
   have W2:=word_bra (fuel:=fuel) (d:=d + 4) (g:=[]) (r:=rest) (.inr rfl) (by rw [hT2,← List.append_assoc];rfl) (λ c h=>(nomatch h)) S2.s (by show 0 < fuel;lia)
   have lis:=its_len hi
   have a2:=kp.1
   have a1:=kp1.1
   have hX:RepIs (λ r=>leP (ps (p++g)) r∧leP r (ps (p++g++[40]++txs ts))) σ₁.length σ₂ us is:=x.move (λ r hr=>⟨(leP_app (p++g) [40]).trans hr.1,hr.2⟩) (Nat.le_refl _) λ zz zz zz e=>e
   have hRq:leP (ps (p++g)) (ps (p++g))∧leP (ps (p++g)) (ps (p++g++[40]++txs ts)):=⟨leP.refl _,by rw [List.append_assoc (p++g)];exact leP_app _ _⟩
   have cl:=step_close (ou:=ou) (n:=m) (N0:=N0) (N1:=σ₁.length) (R:=λ r=>leP (ps (p++g)) r∧leP r (ps (p++g++[40]++txs ts))) hf S2 O2 S.n W2 ho2 (by lia) hX (by lia) hRq (by lia) (by lia) (by lia) (by lia) (by lia) (by lia) (by lia) (its_key hi)
   rcases cl with ⟨σ',v,it,hk2,e3,S3,x3,kp3⟩ | ⟨σ',q',hk2,e3,r3,kp3⟩
   ·rw [hk2]
    have t1:p++(g++([40]++(txs ts++[41])))=(p++g++[40]++txs ts)++[41]:=by simp only [List.append_assoc]
    have x4:RepI (λ r=>leP (ps p) r∧leP r (ps (p++(g++([40]++(txs ts++[41])))))) N0 σ' v it:=by
     refine x3.move (λ z hz=>⟨(leP_app p g).trans hz.1,hz.2.trans ?_⟩) (Nat.le_refl _) λ zz zz zz e=>e
     rw [t1];exact leP_app _ _
    exact .good rfl rfl (.inr ⟨_,rfl⟩) (by rw [em];exact e1.trans (eq.trans e3)) (by rw [t1];rw [List.append_nil] at S3;exact S3) (.cons x4 .nil) ((kp1.app2 kp l2).trans kp3)
   ·rw [hk2]
    exact .bad rfl (by rw [em];exact e1.trans (eq.trans e3)) r3.1 r3.2 ((kp1.app2 kp l2).trans kp3)
theorem read_trees (hf:10000≤fuel) (hl:T.length≤1000000):∀ (ts:List (Tr PP)) {p rest:List Nat} {below vs:List AV} {i j N0 m:Nat} {q:Pos} {o:Lc} {σ:AH} {b0:Bool},gks b0 ts→woks allWs (ers ts)→T=p++(txs ts++rest)→(∀ c r,rest=c :: r→c∈endsL)→Stk σ T p sc wt below i j q vs→(o=[]∨∃ v,o=[(nm "ended",v)])→N0≤σ.length→vs.length + tkns ts≤9000→below.length + tkns ts≤9000→wt < N0→j < N0→sc < N0 →
  TrR (callF tb0 fuel (d + 7)) fuel T p sc ou wt below i j q vs N0 m (tkns ts) o σ (txs ts) (fwPs (ps p) ts) (itsO (ers ts))
 | [],p,rest,below,vs,i,j,N0,m,q,o,σ,b0,hk,hw,hT,hr,S,ho,hN,h1,h2,hwj,hjN,hsN=>by
  simp only [txs,ers,itsO,fwPs,tkns]
  exact .good rfl rfl ho rfl (by rw [List.append_nil,List.append_nil];exact S) .nil (.refl _)
 | t :: r,p,rest,below,vs,i,j,N0,m,q,o,σ,b0,hk,hw,hT,hr,S,ho,hN,h1,h2,hwj,hjN,hsN=>by
  simp only [ers,woks] at hw
  simp only [gks] at hk
  simp only [tkns] at h1 h2
  obtain⟨g1,g2,g3⟩:=hk
  obtain⟨w1,w2⟩:=hw
  simp only [txs,ers,itsO,fwPs,tkns]
  have hT1:T=p++(tx t++(txs r++rest)):=by rw [hT];simp only [txs,List.append_assoc]
  have hgap:gapOk (gapW t):=by
   cases b0 with
   | true=>rw [g1];exact nil_gap
   | false=>exact (gaps_ok g1).1
  have hr1:∀ c r',txs r++rest=c :: r'→c∈endsL:=by
   cases r with
   | nil=>exact hr
   | cons t2 r2=>
    simp only [gks] at g3
    obtain⟨_,c,cs,hc,he⟩:=gaps_ok (show gapW t2∈gaps from g3.1)
    intro c' r' e
    have:∃ z,tx t2=c :: z:=by
     cases t2 with
     | w g s=>simp only [gapW] at hc;simp only [tx];exact⟨cs++s,by rw [hc];rfl⟩
     | l g ab us=>simp only [gapW] at hc;simp only [tx];exact⟨cs++([40]++(txs us++[41])),by rw [hc];rfl⟩
    obtain⟨z,hz⟩:=this
    simp only [txs,hz] at e
    cases e
    exact he
  have em:m + (tkn t + tkns r)=m + tkns r + tkn t:=by lia
  have key:=read_tree hf hl t (m:=m + tkns r) (o:=o) hgap g2 w1 hT1 hr1 S ho hN (by lia) (by lia) hwj hjN
  cases key with
  | bad h eq b1 b2 kp=>
   rw [h]
   exact .bad rfl (by rw [em];exact eq) b1 b2 kp
  | @good h is hi us σ₁ o1 ho1 eq S1 x kp=>
   rw [h]
   obtain⟨it,hit,rfl⟩:=Option.map_eq_some_iff.mp hi
   have lx:=x.length
   have hT2:T=(p++tx t)++(txs r++rest):=by rw [hT1,List.append_assoc]
   have l1:(vs++us).length + tkns r≤9000:=by
    have:1≤tkn t:=by cases t<;>simp only [tkn]<;>lia
    rw [List.length_append,lx]
    show vs.length + 1 + tkns r≤9000
    lia
   have key2:=read_trees hf hl r (m:=m) (o:=o1) (N0:=N0) g3 w2 hT2 hr S1 ho1 (Nat.le_trans hN kp.1) l1 (by lia) hwj hjN hsN
   cases key2 with
   | bad h eq2 b1 b2 kp2=>exact .bad (by rw [← ps_app];exact h) (by rw [em];exact eq.trans eq2) b1 b2 (kp.trans kp2)
   | @good h2 is2 hi2 us2 σ₂ o2 ho2 eq2 S2 x2 kp2=>
    rw [hit,hi2]
    refine .good (by rw [← ps_app];exact h2) rfl ho2 (by rw [em];exact eq.trans eq2) (by rw [← List.append_assoc,← List.append_assoc];exact S2) (RepIs.app2 (is:=[it]) (x.move (λ q hq=>⟨hq.1,hq.2.trans (by rw [← List.append_assoc];exact leP_app _ _)⟩) (Nat.le_refl _) λ y o hy e=>kp2.2 y o (λ z=>by lia) e) (x2.move (λ q hq=>⟨(leP_app p (tx t)).trans hq.1,by rw [← List.append_assoc];exact hq.2⟩) (Nat.le_refl _) λ zz zz zz e=>e)) (kp.trans kp2)
end
end
section
variable {σ σ' σ₀:AH} {fuel d sc ou wt i j:Nat} {T p:List Nat} {q:Pos} {vs below:List AV}
theorem Kp.low {σ₁ σ₂:AH} {F:Nat→Prop} (k:Kp NoP σ₀ σ₁) (k2:Kp F σ₁ σ₂) (h:∀ x,F x→σ₀.length≤x):Kp NoP σ₀ σ₂:=
 ⟨Nat.le_trans k.1 k2.1,λ x o n e=>k2.2 x o (λ f=>by have:=h x f;have:=lt_of_get e;lia) (k.2 x o n e)⟩
inductive Rf (fuel d:Nat) (T:List Nat) (σ:AH) (r:AV):Prop
 | mk {σ':AH} (e:callF tb0 fuel (d + 10) 828 [.str T] σ=some (.ok r,σ')) (k:Kp NoP σ σ')
structure St0 (fuel d:Nat) (T:List Nat) (σ σ₁:AH):Prop where
 e:callF tb0 fuel (d + 8) 679 [.str T] σ=rwGo (callF tb0 fuel (d + 7)) fuel T σ.length (σ.length + 1) (σ.length + 3) fuel [] σ₁
 S:Stk σ₁ T [] σ.length (σ.length + 3) [] (σ.length + 1) (σ.length + 2) (1,1) []
 k:Kp NoP σ σ₁
 l:σ₁.length=σ.length + 4
theorem rw_start (T:List Nat) (σ:AH):∃ σ₁,St0 fuel d T σ σ₁:=by
 have l1:(σ++[oSc T 0 1 0]).length=σ.length + 1:=by rw [List.length_append];rfl
 have e1:callF tb0 fuel (d + 7) 562 [.str T] σ=some (.ok (.obj σ.length),σ++[oSc T 0 1 0]):=new_scan
 have e2:=new_open (fuel:=fuel) (d:=d + 5) (σ:=σ++[oSc T 0 1 0]) (q:=(1,1))
 have s1:=get_push σ (oSc T 0 1 0)
 have s2:=get_push (σ++[oSc T 0 1 0]) (oOpen (1,1) ((σ++[oSc T 0 1 0]).length + 1))
 have k1:Kp NoP σ (σ++[oSc T 0 1 0]):=.app _ _
 generalize σ++[oSc T 0 1 0]=σa at l1 e1 e2 s1 s2 k1
 rw [l1] at e2 s2
 have l2:(σa++[oOpen (1,1) (σ.length + 1 + 1)]).length=σ.length + 2:=by rw [List.length_append,l1];rfl
 have s3:=get_push (σa++[oOpen (1,1) (σ.length + 1 + 1)]) (AO.list [])
 have k2:=(k1.to [oOpen (1,1) (σ.length + 1 + 1)]).to [AO.list []]
 have s1':=getApp (m:=[AO.list []]) (getApp (m:=[oOpen (1,1) (σ.length + 1 + 1)]) s1)
 have s2':=getApp (m:=[AO.list []]) s2
 rw [l2] at s3
 have l3:((σa++[oOpen (1,1) (σ.length + 1 + 1)])++[AO.list []]).length=σ.length + 3:=by rw [List.length_append,l2];rfl
 generalize (σa++[oOpen (1,1) (σ.length + 1 + 1)])++[AO.list []]=σb at e2 s3 k2 s1' s2' l3
 have e3:newL [.obj (σ.length + 1)] σb=some (.ok (.obj (σ.length + 3)),σb++[AO.list [.obj (σ.length + 1)]]):=by
  rw [← l3];exact run_newL (Nat.le_of_ble_eq_true rfl)
 refine⟨σb++[AO.list [.obj (σ.length + 1)]],?_,⟨getApp s1',?_,⟨getApp s2',getApp s3⟩,by lia⟩,k2.to _,by rw [List.length_append,l3];rfl⟩
 ·refine rwg (den_679 ..) ?_
  exact run_bind e1 (run_bind e2 (run_bind e3 rfl))
 ·rw [← l3];exact get_push _ _
theorem Rf.err {σ₁ σ₂:AH} {e:AV} {F:Nat→Prop} {n:Nat} (Z:St0 fuel d T σ σ₁) (hn:n=fuel) (h:rwGo (callF tb0 fuel (d + 7)) fuel T σ.length (σ.length + 1) (σ.length + 3) n [] σ₁=some (.error e,σ₂)) (k:Kp F σ₁ σ₂) (hF:∀ x,F x→σ.length≤x):Rf fuel d T σ e:=by
 rw [hn] at h
 refine⟨?_,Z.k.low k hF⟩
 refine rwg (den_828 ..) ?_
 have:callF tb0 fuel (d + 9) 686 [.str T] σ=some (.error e,σ₂):=by
  rw [den_686]
  have e0:(seqA [callF tb0 fuel (d + 8) 679 [.str T],pure (.int 0)]>>=λ vs1=>callF tb0 fuel (d + 8) 594 vs1)=(callF tb0 fuel (d + 8) 679 [.str T]>>=λ v=>seqA [pure (.int 0)]>>=λ vs=>callF tb0 fuel (d + 8) 594 (v :: vs)):=by
   conv=>lhs;unfold seqA
   simp only [PM.bind_assoc,PM.pure_bind]
  show (seqA [callF tb0 fuel (d + 8) 679 [.str T],pure (.int 0)]>>=λ vs1=>callF tb0 fuel (d + 8) 594 vs1) σ=_
  refine rwg (e0 ..) ?_
  exact run_err (Z.e.trans h)
 show (match callF tb0 fuel (d + 9) 686 [.str T] σ with
  | Option.none=>Option.none
  | some (.ok zz,σ')=>(pure .none:PM AV) σ'
  | some (.error e,σ')=>some (.ok e,σ'))=_
 refine rwg (this ..) rfl
theorem Rf.ok {R:Pos→Prop} {n m:Nat} {is:List It} {σ₁ σ₂:AH} {F:Nat→Prop} (Z:St0 fuel d T σ σ₁) (hn:m=fuel) (h:rwGo (callF tb0 fuel (d + 7)) fuel T σ.length (σ.length + 1) (σ.length + 3) m [] σ₁=some (.ok (.obj (σ.length + 1)),σ₂)) (k:Kp F σ₁ σ₂) (hF:∀ x,F x→σ.length≤x) (L:Ls R n σ₂ (σ.length + 1) is):
  (at1 is 0 It.isCore=true→Rf fuel d T σ .none)∧(at1 is 0 It.isCore=false→∃ q,Rf fuel d T σ (pT q)):=by
 rw [hn] at h
 have main:∀ {r:Except AV AV} {σ₃:AH},callF tb0 fuel (d + 8) 594 [.obj (σ.length + 1),.int 0] σ₂=some (r,σ₃)→callF tb0 fuel (d + 9) 686 [.str T] σ=some (r,σ₃):=λ h2=>by
  rw [den_686]
  exact run_seq (Z.e.trans h) (run_seq (v:=.int 0) rfl (run_nil h2))
 have tr:∀ {r:Except AV AV} {σ₃:AH},callF tb0 fuel (d + 9) 686 [.str T] σ=some (r,σ₃)→callF tb0 fuel (d + 10) 828 [.str T] σ=some (.ok (match r with | .ok zz=>.none | .error e=>e),σ₃):=λ {r σ₃} h3=>by
  rw [den_828]
  show (match callF tb0 fuel (d + 9) 686 [.str T] σ with
   | Option.none=>Option.none
   | some (.ok zz,σ')=>(pure .none:PM AV) σ'
   | some (.error e,σ')=>some (.ok e,σ'))=_
  refine rwg (h3 ..) ?_
  clear L hF k h hn Z h3 main F σ₂ σ₁ is m n R
  cases r<;>rfl
 have kk:=Z.k.low k hF
 have key:=rs_core (fuel:=fuel) (d:=d + 5) L 0 (z:=0) rfl
 cases key with
 | good hb v σ₃ e k' p=>
  rw [hb]
  exact⟨λ zz=>.mk (tr (main e)) (kk.trans k'),λ h=>(nomatch h)⟩
 | bad hb q σ₃ e r k'=>
  rw [hb]
  exact⟨λ h=>(nomatch h),λ zz=>⟨q,.mk (tr (main e)) (kk.trans k')⟩⟩
theorem rw_end {n:Nat} {o:Lc} {g:List Nat} (S:Stk σ T p sc wt below i j q vs) (hT:T=p++g) (hg:∀ c∈g,c∈blanks) (hn:g.length < fuel):∃ (wi:Nat) (σ₁:AH),rwGo (callF tb0 fuel (d + 7)) fuel T sc ou wt (n + 1) o σ=rwKont (callF tb0 fuel (d + 7)) (Lr T sc ou wt (.obj wi) o) σ₁∧Stk σ₁ T T sc wt below i j q vs∧Kp (At1 sc) σ σ₁:=by
 obtain @⟨wi,σ₁,e,a,h,s,k1⟩:=word_end (fuel:=fuel) (d:=d + 4) hT hg S.s hn
 refine⟨wi,σ₁,?_,⟨s,k1.get1 (ne_of_get S.w S.s (λ e=>nomatch e)) S.w,⟨k1.get1 (ne_of_get S.O.h S.s (λ e=>nomatch e)) S.O.h,k1.get1 (ne_of_get S.O.l S.s (λ e=>nomatch e)) S.O.l⟩,S.n⟩,k1⟩
 exact run_bind ((sc_meth S.s rfl rfl).trans e) (loop_end (run_bind (run_bind lr_word (word_kind h)) (run_cmp (r:=false) rfl)))
theorem rw_open {n:Nat} {o:Lc} {g:List Nat} (S:Stk σ T p sc wt below i j q vs) (hT:T=p++g) (hg:∀ c∈g,c∈blanks) (hn:g.length < fuel) (hb:below≠[]):∃ σ₁,rwGo (callF tb0 fuel (d + 7)) fuel T sc ou wt (n + 1) o σ=some (.error (pT q),σ₁)∧Kp (At1 sc) σ σ₁:=by
 refine ex23 (rw_end (ou:=ou) (d:=d) (n:=n) (o:=o) S hT hg hn) λ wi σ₁ e S1 k1=>?_
 refine⟨σ₁,e.trans ?_,k1⟩
 have hl:0 < below.length:=List.length_pos_iff.mpr hb
 refine run_bind (run_bind (run_seq lr_wait (run_nil (run_len S1.w))) (run_cmp (r:=true) (congrArg some (decide_eq_true (by rw [List.length_append];show (1:Int) < ((below.length + 1:Nat):Int);lia))))) ?_
 exact run_seq (σ₁:=σ₁) (v:=.str _) rfl (run_seq (run_bind (run_bind lr_wait (at_last S1.w)) S1.O.place) rfl)
theorem rw_done {R:Pos→Prop} {N n:Nat} {o:Lc} {g:List Nat} {is:List It} (S:Stk σ T p sc wt [] ou j q vs) (hT:T=p++g) (hg:∀ c∈g,c∈blanks) (hn:g.length < fuel) (X:RepIs R N σ vs is) (hN:sc < N) (hR:R q) (hm:is.length≤9000):
  (is.length=1→∃ σ₁,rwGo (callF tb0 fuel (d + 7)) fuel T sc ou wt (n + 1) o σ=some (.ok (.obj ou),σ₁)∧Kp (At1 sc) σ σ₁∧Ls R N σ₁ ou is) ∧
  (is.length≠1→∃ σ₁ q',rwGo (callF tb0 fuel (d + 7)) fuel T sc ou wt (n + 1) o σ=some (.error (pT q'),σ₁)∧Kp (At1 sc) σ σ₁):=by
 refine ex23 (rw_end (ou:=ou) (d:=d) (n:=n) (o:=o) S hT hg hn) λ wi σ₁ e S1 k1=>?_
 have X1:RepIs R N σ₁ vs is:=X.move (λ zz r=>r) (Nat.le_refl _) λ x o hx e=>k1.get1 (by lia) e
 have L:Ls R N σ₁ ou is:=⟨hm,hR,S1.O,X1⟩
 have front:∀ x,((seqA [lk (Lr T sc ou wt (.obj wi) o) (nm "outer"),(pure (.int 1)),(pure (.int 1))]>>=λ vs51=>(callF tb0 fuel (d + 7) 625 vs51))>>=λ zz=>lk (Lr T sc ou wt (.obj wi) o) (nm "outer")) σ₁=x→rwGo (callF tb0 fuel (d + 7)) fuel T sc ou wt (n + 1) o σ=x:=λ x hx=>
  e.trans (run_bind (run_bind (run_seq lr_wait (run_nil (run_len S1.w))) (run_cmp (r:=false) rfl)) hx)
 have many:=rs_many (fuel:=fuel) (d:=d + 5) L 1 1 (y:=1) (z:=1) rfl rfl
 rw [many_eq] at many
 have ins:∀ {r:Option (Except AV AV×AH)},callF tb0 fuel (d + 7) 625 [.obj ou,.int 1,.int 1] σ₁=r→(seqA [lk (Lr T sc ou wt (.obj wi) o) (nm "outer"),(pure (.int 1)),(pure (.int 1))]>>=λ vs51=>(callF tb0 fuel (d + 7) 625 vs51)) σ₁=r:=λ h=>run_seq lr_outer (run_seq (v:=.int 1) rfl (run_seq (v:=.int 1) rfl (run_nil h)))
 cases many with
 | good hb v σ₂ e2 k2 zz=>
  have hb:=of_decide_eq_true hb
  exact⟨λ zz=>⟨σ₂,front _ (run_bind (ins e2) lr_outer),k1.trans k2.no,L.no k2⟩,λ h=>(h hb).elim⟩
 | bad hb q' σ₂ e2 r2 k2=>
  have hb:=of_decide_eq_false hb
  exact⟨λ h=>(hb h).elim,λ zz=>⟨σ₂,q',front _ (run_err (ins e2)),k1.trans k2.no⟩⟩
end
section
variable {σ σ' σ₀:AH} {fuel d sc ou wt i j:Nat} {T p:List Nat} {q:Pos} {vs below:List AV}
theorem step_stray {n:Nat} {o:Lc} {v:AV} {r:Pos} {p':List Nat} (S:Stk σ T p sc wt [] i j q vs) (W:WR fuel (d + 4) sc T p' (oWord [41] v (pT r)) σ):∃ σ₁,rwGo (callF tb0 fuel (d + 7)) fuel T sc ou wt (n + 1) o σ=some (.error (pT r),σ₁)∧Kp (At1 sc) σ σ₁:=by
 obtain @⟨wi,σ₁,e,a,h,s,k1⟩:=W
 have w1:=k1.get1 (ne_of_get S.w S.s (λ e=>nomatch e)) S.w
 refine⟨σ₁,(rw_enter (d:=d) S.s e h (λ e=>nomatch e)).trans ?_,k1⟩
 refine run_bind (run_bind (run_bind lr_word (word_kind h)) (run_cmp (r:=false) rfl)) (run_bind (run_bind (run_bind lr_word (word_kind h)) (run_cmp (r:=true) rfl)) (run_bind (v:=true) (σ₁:=σ₁) (run_bind (run_seq lr_wait (run_nil (run_len w1))) (run_cmp rfl)) ?_))
 exact run_seq (σ₁:=σ₁) (v:=.str _) rfl (run_seq (run_bind lr_word (word_place h)) rfl)
mutual
theorem tkn_wt:∀ t:Tr PP,tkn t≤Mine.wt (er t)
 | .w g s=>by dsimp only [tkn,er,Mine.wt];lia
 | .l g ab ts=>by have:=tkns_wt ts;dsimp only [tkn,er,Mine.wt];lia
theorem tkns_wt:∀ ts:List (Tr PP),tkns ts≤wts (ers ts)
 | []=>Nat.le_refl _
 | t :: r=>by have:=tkn_wt t;have:=tkns_wt r;dsimp only [tkns,ers,wts];lia
end
structure Wt (t:Tr PP):Prop where
 g:gapW t=[]
 k:gk t
 w:wok allWs (er t)
 n:Mine.wt (er t)≤8400
 l:(tx t).length≤8400
noncomputable def reg (g:List Nat):Tr PP→Tr PP
 | .w zz s=>.w g s
 | .l zz ab ts=>.l g ab ts
theorem reg_er (g:List Nat) (t:Tr PP):er (reg g t)=er t:=by cases t<;>simp only [reg,er]
theorem reg_gap (g:List Nat) (t:Tr PP):gapW (reg g t)=g:=by cases t<;>rfl
theorem reg_gk (g:List Nat) (t:Tr PP) (h:gk t):gk (reg g t):=by cases t<;>simpa only [reg,gk] using h
theorem reg_tkn (g:List Nat) (t:Tr PP):tkn (reg g t)=tkn t:=by cases t<;>simp only [reg,tkn]
theorem reg_tx (g:List Nat) (t:Tr PP) (h:gapW t=[]):tx (reg g t)=g++tx t:=by
 cases t<;>(simp only [gapW] at h;subst h;dsimp only [reg,tx,List.nil_append])
noncomputable def start41 (r:List Nat):Prop:=∀ c r',r=c :: r'→c∈endsL
theorem start_tree {t:Tr PP} {rest:List Nat} (hf:100000≤fuel) (H:Wt t) (hr:start41 rest) (hl:rest.length≤100) (σ:AH):∃ σ₁ m,St0 fuel d (tx t++rest) σ σ₁∧m + 3 + tkn t=fuel ∧
  TrR (callF tb0 fuel (d + 7)) fuel (tx t++rest) [] σ.length (σ.length + 1) (σ.length + 3) [] (σ.length + 1) (σ.length + 2) (1,1) [] σ₁.length (m + 3) (tkn t) [] σ₁ (tx t) (fwP (1,1) t) ((itO (er t)).map λ x=>[x]):=by
 refine Exists.elim (rw_start (fuel:=fuel) (d:=d) (tx t++rest) σ) λ σ₁ Z=>?_
 have ht:=tkn_wt t
 have hn:=H.n
 have hlen:=H.l
 have hz:=Z.l
 refine⟨σ₁,fuel - tkn t - 3,Z,by lia,?_⟩
 exact read_tree (by lia) (by rw [List.length_append];lia) t (p:=[]) (rest:=rest) (by rw [H.g];exact nil_gap) H.k H.w rfl hr Z.S (.inl rfl) (Nat.le_refl _) (by show 0 + tkn t≤9000;lia) (by show 0 + tkn t≤9000;lia) (by lia) (by lia)
noncomputable def Mut (σ:AH):Nat→Prop:=λ x=>x=σ.length∨x=σ.length + 3∨x=σ.length + 2
theorem mut_le:∀ x,Mut σ x→σ.length≤x:=λ x h=>by rcases h with h | h | h<;>lia
theorem rf_bad {t:Tr PP} {rest:List Nat} {a b:Pos} (hf:100000≤fuel) (H:Wt t) (hr:start41 rest) (hl:rest.length≤100) (h:fwP (1,1) t=some (a,b)) (σ:AH):∃ q,Rf fuel d (tx t++rest) σ (pT q)∧leP a q∧leP q b:=by
 refine ex23 (start_tree (d:=d) hf H hr hl σ) λ σ₁ m Z hm key=>?_
 rw [h] at key
 cases key with
 | good h=>cases h
 | bad h eq b1 b2 kp=>
  cases h
  exact⟨_,.err Z hm eq kp mut_le,b1,b2⟩
inductive RfG (fuel d:Nat) (t:Tr PP) (it:It) (rest:List Nat) (σ:AH):Prop
 | mk (σ₁ σ₂:AH) (v:AV) (o:Lc) (m:Nat) (Z:St0 fuel d (tx t++rest) σ σ₁) (hm:m + 3 + tkn t=fuel) (ho:o=[]∨∃ v,o=[(nm "ended",v)])
  (eq:rwGo (callF tb0 fuel (d + 7)) fuel (tx t++rest) σ.length (σ.length + 1) (σ.length + 3) (m + 3 + tkn t) [] σ₁=rwGo (callF tb0 fuel (d + 7)) fuel (tx t++rest) σ.length (σ.length + 1) (σ.length + 3) (m + 3) o σ₂)
  (S:Stk σ₂ (tx t++rest) (tx t) σ.length (σ.length + 3) [] (σ.length + 1) (σ.length + 2) (1,1) [v]) (x:RepI (λ zz=>True) σ₁.length σ₂ v it) (kp:Kp (Mut σ) σ₁ σ₂)
theorem rf_good {t:Tr PP} {it:It} {rest:List Nat} (hf:100000≤fuel) (H:Wt t) (hr:start41 rest) (hl:rest.length≤100) (h:itO (er t)=some it) (σ:AH):RfG fuel d t it rest σ:=by
 refine ex23 (start_tree (d:=d) hf H hr hl σ) λ σ₁ m Z hm key=>?_
 rw [h] at key
 have hn:fwP (1,1) t=none:=by
  have:=fwP_it (t:=t) (q:=(1,1))
  rw [h] at this
  exact Option.isNone_iff_eq_none.mp this
 rw [hn] at key
 cases key with
 | bad h=>cases h
 | @good zz is hi us σ₂ o ho eq S x kp=>
  cases hi
  cases x with
  | @cons v zz zy zx x y=>
   cases y
   exact⟨σ₁,σ₂,v,o,m,Z,hm,ho,eq,S,x.move (λ zz zz=>trivial) (Nat.le_refl _) λ zz zz zz e=>e,kp⟩
theorem nil_start:start41 []:=λ c r e=>nomatch e
theorem rf_right {t:Tr PP} {it:It} (hf:100000≤fuel) (H:Wt t) (h:itO (er t)=some it) (σ:AH):(it.isCore=true→Rf fuel d (tx t) σ .none)∧(it.isCore=false→∃ q,Rf fuel d (tx t) σ (pT q)):=by
 obtain⟨σ₁,σ₂,v,o,m,Z,hm,ho,eq,S,x,kp⟩:=rf_good (d:=d) (rest:=[]) hf H nil_start (Nat.zero_le _) h σ
 have hz:=Z.l
 obtain⟨d1,_⟩:=rw_done (d:=d) (ou:=σ.length + 1) (n:=m + 2) (o:=o) (fuel:=fuel) S (g:=[]) rfl (λ c h=>(nomatch h)) (by show 0 < fuel;lia) (.cons x .nil) (by lia) trivial (by show 1≤9000;lia)
 refine ex13 (d1 rfl) λ σ₃ e3 k3 L=>?_
 have:=Rf.ok (d:=d) Z hm (eq.trans e3) (kp.trans (k3.mono λ zz zz z=>.inl z)) mut_le L
 rw [List.append_nil] at this
 exact this
theorem rf_close {t:Tr PP} {it:It} (hf:100000≤fuel) (H:Wt t) (h:itO (er t)=some it) (σ:AH):Rf fuel d (tx t++[41]) σ (pT (ps (tx t))):=by
 obtain⟨σ₁,σ₂,v,o,m,Z,hm,ho,eq,S,x,kp⟩:=rf_good (d:=d) (rest:=[41]) hf H bra_start (by decide) h σ
 have W:=word_bra (fuel:=fuel) (d:=d + 4) (g:=[]) (r:=[]) (.inr rfl) (show tx t++[41]=tx t++([]++41 :: []) from rfl) (λ c h=>(nomatch h)) S.s (by show 0 < fuel;lia)
 refine ex12 (step_stray (ou:=σ.length + 1) (n:=m + 2) (o:=o) S W) λ σ₃ e3 k3=>?_
 rw [List.append_nil] at e3
 exact .err Z hm (eq.trans e3) (kp.trans (k3.mono λ zz zz z=>.inl z)) mut_le
theorem x_mem:[120]∈allWs:=by decide +kernel
theorem blank1:∀ c∈[32],c∈blanks:=by decide
theorem rf_more {t:Tr PP} (hf:100000≤fuel) (H:Wt t) (σ:AH):∃ q,Rf fuel d (tx t++[32,120]) σ (pT q):=by
 have st:start41 [32,120]:=λ c r e=>by cases e;decide
 cases hi:itO (er t) with
 | none=>
  have hn:=fwP_it (t:=t) (q:=(1,1))
  rw [hi] at hn
  cases hw:fwP (1,1) t with
  | none=>rw [hw] at hn;cases hn
  | some ab=>
   obtain⟨q,h,_⟩:=rf_bad (d:=d) hf H st (by decide) (a:=ab.1) (b:=ab.2) hw σ
   exact⟨q,h⟩
 | some it=>
  obtain⟨σ₁,σ₂,v,o,m,Z,hm,ho,eq,S,x,kp⟩:=rf_good (d:=d) (rest:=[32,120]) hf H st (by decide) hi σ
  have hz:=Z.l
  have hlen:=H.l
  obtain⟨k,u,W,hk,hrep⟩:=word_any (d:=d + 4) (fuel:=fuel) (w:=[120]) (g:=[32]) (rest:=[]) (by lia) x_mem nil_start rfl (by simp;lia) blank1 S.s (by show 1 < fuel;lia)
  obtain⟨σ₃,wi,e3,S3,k3,hwi,hh⟩:=step_word (ou:=σ.length + 1) (n:=m + 2) (o:=o) S W hk.1 hk.2.1 hk.2.2 (by show 1 < 9000;lia)
  have x3:=x.move (R':=λ zz=>True) (λ zz zz=>trivial) (Nat.le_refl _) λ y o hy e=>k3.2 y o (λ z=>by lia) e
  have y3:=hrep (λ zz=>True) σ₁.length σ₃ wi (Nat.le_trans kp.1 hwi) hh
  obtain⟨_,d2⟩:=rw_done (d:=d) (ou:=σ.length + 1) (n:=m + 1) (o:=o) (fuel:=fuel) S3 (g:=[]) (by rw [List.append_nil,List.append_assoc];rfl) (λ c h=>(nomatch h)) (by show 0 < fuel;lia) (.cons x3 (.cons y3 .nil)) (by lia) trivial (by show 2≤9000;lia)
  obtain⟨σ₄,q,e4,k4⟩:=d2 (by show 2≠1;lia)
  exact⟨q,.err Z hm (eq.trans (e3.trans e4)) ((kp.trans (k3.mono λ zz zz z=>z.elim .inl λ z=>.inr (.inr z))).trans (k4.mono λ zz zz z=>.inl z)) mut_le⟩
end
section
variable {σ σ' σ₀:AH} {fuel d sc ou wt i j:Nat} {T p:List Nat} {q:Pos} {vs below:List AV}
theorem go_in {t:Tr PP} {it:It} {m N0:Nat} {o:Lc} (hf:100000≤fuel) (H:Wt t) (h:itO (er t)=some it) (hT:T=p++32 :: tx t) (hp:p.length≤100) (hne:below≠[]) (hb:below.length≤100) (S:Stk σ T p sc wt below i j q []) (ho:o=[]∨∃ v,o=[(nm "ended",v)]) (hN:N0≤σ.length) (hw:wt < N0) (hj:j < N0):
  ∃ σ',rwGo (callF tb0 fuel (d + 7)) fuel T sc ou wt (m + 1 + tkn t) o σ=some (.error (pT q),σ')∧Kp (λ x=>x=sc∨x=wt∨x=j) σ σ':=by
 have ht:=tkn_wt t
 have hn:=H.n
 have hlen:=H.l
 have hn:fwP (ps p) (reg [32] t)=none:=by
  have:=fwP_it (t:=reg [32] t) (q:=ps p)
  rw [reg_er,h] at this
  exact Option.isNone_iff_eq_none.mp this
 have etx:tx (reg [32] t)=32 :: tx t:=reg_tx [32] t H.g
 have key:=read_tree (d:=d) (ou:=ou) (fuel:=fuel) (by lia) (by rw [hT,List.length_append];show p.length + ((tx t).length + 1)≤1000000;lia) (reg [32] t) (m:=m + 1) (o:=o) (rest:=[]) (by rw [reg_gap];exact⟨blank1,by decide⟩) (reg_gk _ _ H.k) (by rw [reg_er];exact H.w) (by rw [etx,List.append_nil];exact hT) nil_start S ho hN (by rw [reg_tkn];show 0 + tkn t≤9000;lia) (by rw [reg_tkn];lia) hw hj
 rw [hn,reg_tkn,etx] at key
 cases key with
 | bad h=>cases h
 | @good zz is hi us σ₂ o2 ho2 eq S2 x kp=>
  obtain⟨σ₃,e3,k3⟩:=rw_open (d:=d) (ou:=ou) (n:=m) (o:=o2) (fuel:=fuel) S2 (g:=[]) (by rw [List.append_nil];exact hT) (λ c h=>(nomatch h)) (by show 0 < fuel;lia) hne
  exact⟨σ₃,eq.trans e3,kp.trans (k3.mono λ zz zz z=>.inl z)⟩
theorem rf_in1 {t:Tr PP} {it:It} (hf:100000≤fuel) (H:Wt t) (h:itO (er t)=some it) (σ:AH):Rf fuel d (40 :: 32 :: tx t) σ (pT (1,1)):=by
 obtain⟨σ₁,Z⟩:=rw_start (fuel:=fuel) (d:=d) (40 :: 32 :: tx t) σ
 have hz:=Z.l
 have ht:=tkn_wt t
 have hn:=H.n
 have W1:=word_bra (fuel:=fuel) (d:=d + 4) (p:=[]) (g:=[]) (.inl rfl) (show 40 :: 32 :: tx t=[]++([]++40 :: (32 :: tx t)) from rfl) (λ c h=>(nomatch h)) Z.S.s (by show 0 < fuel;lia)
 obtain⟨m,hm⟩:∃ m,m + 1 + tkn t + 1=fuel:=⟨fuel - tkn t - 2,by lia⟩
 obtain⟨σ₂,i2,j2,e1,S1,O1,kp1,l1,l2,l3,l4⟩:=step_open (ou:=σ.length + 1) (n:=m + 1 + tkn t) (o:=[]) Z.S W1 (by show 0 < 9000;lia)
 obtain⟨σ₃,e3,k3⟩:=go_in (d:=d) (ou:=σ.length + 1) (m:=m) (p:=[40]) (o:=[]) (N0:=σ₂.length) hf H h rfl (by decide) (by simp) (by simp) S1 (.inl rfl) (Nat.le_refl _) (by lia) (by lia)
 refine .err (F:=λ x=>σ.length≤x) Z hm (e1.trans e3) ((kp1.mono λ x zz z=>by rcases z with z | z<;>lia).trans (k3.mono λ x zz z=>by rcases z with z | z | z<;>lia)) λ x h=>h
theorem rf_in2 {t:Tr PP} {it:It} (hf:100000≤fuel) (H:Wt t) (h:itO (er t)=some it) (σ:AH):Rf fuel d (40 :: 32 :: 40 :: 32 :: tx t) σ (pT (1,3)):=by
 obtain⟨σ₁,Z⟩:=rw_start (fuel:=fuel) (d:=d) (40 :: 32 :: 40 :: 32 :: tx t) σ
 have hz:=Z.l
 have ht:=tkn_wt t
 have hn:=H.n
 have W1:=word_bra (fuel:=fuel) (d:=d + 4) (p:=[]) (g:=[]) (.inl rfl) (show 40 :: 32 :: 40 :: 32 :: tx t=[]++([]++40 :: (32 :: 40 :: 32 :: tx t)) from rfl) (λ c h=>(nomatch h)) Z.S.s (by show 0 < fuel;lia)
 obtain⟨m,hm⟩:∃ m,m + 1 + tkn t + 1 + 1=fuel:=⟨fuel - tkn t - 3,by lia⟩
 obtain⟨σ₂,i2,j2,e1,S1,O1,kp1,l1,l2,l3,l4⟩:=step_open (ou:=σ.length + 1) (n:=m + 1 + tkn t + 1) (o:=[]) Z.S W1 (by show 0 < 9000;lia)
 have W2:=word_bra (fuel:=fuel) (d:=d + 4) (p:=[40]) (g:=[32]) (.inl rfl) (show 40 :: 32 :: 40 :: 32 :: tx t=[40]++([32]++40 :: (32 :: tx t)) from rfl) blank1 S1.s (by show 1 < fuel;lia)
 obtain⟨σ₃,i3,j3,e2,S2,O2,kp2,l5,l6,l7,l8⟩:=step_open (ou:=σ.length + 1) (n:=m + 1 + tkn t) (o:=[]) S1 W2 (by show 1 < 9000;lia)
 have a2:=kp1.1
 have a3:=kp2.1
 obtain⟨σ₄,e3,k3⟩:=go_in (d:=d) (ou:=σ.length + 1) (m:=m) (p:=[40]++[32]++[40]) (o:=[]) (N0:=σ₃.length) hf H h rfl (by decide) (by simp) (by simp) S2 (.inl rfl) (Nat.le_refl _) (by lia) (by lia)
 exact .err (F:=λ x=>σ.length≤x) Z hm (e1.trans (e2.trans e3)) (((kp1.mono λ x zz z=>by rcases z with z | z<;>lia).trans (kp2.mono λ x zz z=>by rcases z with z | z<;>lia)).trans (k3.mono λ x zz z=>by rcases z with z | z | z<;>lia)) λ x h=>h
theorem rf_one {p':List Nat} {k:List Nat} {v pl:AV} {it:It} (hf:100000≤fuel) (σ:AH) (hW:∀ σ₁,σ₁[σ.length]? = some (oScan T [])→WR fuel (d + 4) σ.length T T (oWord k v pl) σ₁) (hk:k≠sEnd∧k≠[40]∧k≠[41]) (hrep:∀ (n:Nat) (σ:AH) (i:Nat),n≤i→σ[i]? = some (oWord k v pl)→RepI (λ zz=>True) n σ (.obj i) it):
  (it.isCore=true→Rf fuel d T σ .none)∧(it.isCore=false→∃ q,Rf fuel d T σ (pT q)):=by
 refine Exists.elim (rw_start (fuel:=fuel) (d:=d) T σ) λ σ₁ Z=>?_
 have hz:=Z.l
 obtain⟨m,hm⟩:∃ m,m + 1 + 1=fuel:=⟨fuel - 2,by lia⟩
 obtain⟨σ₂,wi,e1,S1,k1,hwi,hh⟩:=step_word (ou:=σ.length + 1) (n:=m + 1) (o:=[]) Z.S (hW σ₁ Z.S.s) hk.1 hk.2.1 hk.2.2 (by show 0 < 9000;lia)
 obtain⟨d1,_⟩:=rw_done (d:=d) (ou:=σ.length + 1) (n:=m) (o:=[]) (fuel:=fuel) S1 (g:=[]) (by rw [List.append_nil]) (λ c h=>(nomatch h)) (by show 0 < fuel;lia) (.cons (hrep σ₁.length σ₂ wi hwi hh) .nil) (by lia) trivial (by show 1≤9000;lia)
 refine ex13 (d1 rfl) λ σ₃ e3 k3 L=>?_
 have:=Rf.ok (d:=d) (F:=λ x=>σ.length≤x) Z hm (e1.trans e3) ((k1.mono λ x zz z=>by rcases z with z | z<;>lia).trans (k3.mono λ x zz z=>Nat.le_of_eq z.symm)) (λ x h=>h) L
 exact this
theorem rf_x (hf:100000≤fuel) (σ:AH):Rf fuel d [120] σ .none:=
 (rf_one (it:=.name) (k:=sName) (v:=.str [120]) (pl:=pT (1,1)) (p':=[]) hf σ (λ σ₁ h=>word_plain (w:=[120]) (g:=[]) (p:=[]) (rest:=[]) (by lia) (by decide +kernel) nil_start rfl (by decide) (λ c h=>(nomatch h)) h (by show 0 < fuel;lia)) (by decide) λ n σ i a e=>.name a e).1 rfl
theorem rf_qlet (hf:100000≤fuel) (σ:AH):Rf fuel d [124,108,101,116,124] σ .none:=
 (rf_one (it:=.name) (k:=sName) (v:=.str [108,101,116]) (pl:=pT (1,1)) (p':=[]) hf σ (λ σ₁ h=>word_quote (s:=[108,101,116]) (g:=[]) (p:=[]) (rest:=[]) (by intro c hc;simp at hc;rcases hc with rfl | rfl | rfl<;>decide) (by decide) (by decide) (by lia) rfl (λ c h=>(nomatch h)) h (by show 0 < fuel;lia)) (by decide) λ n σ i a e=>.name a e).1 rfl
theorem rf_let (hf:100000≤fuel) (σ:AH):∃ q,Rf fuel d [108,101,116] σ (pT q):=
 (rf_one (it:=.key [108,101,116]) (k:=sKey) (v:=.str [108,101,116]) (pl:=pT (1,1)) (p':=[]) hf σ (λ σ₁ h=>word_plain (w:=[108,101,116]) (g:=[]) (p:=[]) (rest:=[]) (by lia) (by decide +kernel) nil_start rfl (by decide) (λ c h=>(nomatch h)) h (by show 0 < fuel;lia)) (by decide) λ n σ i a e=>.key a e).2 rfl
theorem rf_none (hf:100000≤fuel) (σ:AH):∃ q,Rf fuel d [] σ (pT q):=by
 obtain⟨σ₁,Z⟩:=rw_start (fuel:=fuel) (d:=d) [] σ
 obtain⟨m,hm⟩:∃ m,m + 1=fuel:=⟨fuel - 1,by lia⟩
 have hz:=Z.l
 obtain⟨_,d2⟩:=rw_done (d:=d) (ou:=σ.length + 1) (n:=m) (o:=[]) (fuel:=fuel) Z.S (g:=[]) rfl (λ c h=>(nomatch h)) (by show 0 < fuel;lia) (R:=λ zz=>True) (N:=σ₁.length) .nil (by lia) trivial (by show 0≤9000;lia)
 obtain⟨σ₃,q,e3,k3⟩:=d2 (by show 0≠1;lia)
 exact⟨q,.err (F:=λ x=>σ.length≤x) Z hm e3 (k3.mono λ x zz z=>Nat.le_of_eq z.symm) λ x h=>h⟩
end
section
variable {σ σ' σ₀:AH} {fuel d:Nat}
noncomputable def kn:It→List Nat
 | .key zz=>[107,101,121]
 | .num zz=>[110,117,109,98,101,114]
 | .name=>[110,97,109,101]
 | .list zz=>[108,105,115,116]
 | .lit=>[108,105,116,101,114,97,108]
 | .core=>[99,111,114,101]
 | .way=>[119,97,121]
 | .els=>[101,108,115,101]
 | .prog=>[112,114,111,103,114,97,109]
mutual
inductive RepL (P:Nat→Prop) (σ:AH):AV→It→Prop
 | word {s:List Nat} (h:s∈allWs):RepL P σ (.str s) (itW s)
 | list {i j:Nat} {x y:AV} {vs:List AV} {is:List It} {it:It} (a:P i) (b:P j) (h:σ[i]? = some (.list [.obj j,x,y,.str (kn it)])) (l:σ[j]? = some (.list vs)) (X:RepLs P σ vs is) (m:is.length≤9000) (k:kd is=some it):RepL P σ (.obj i) it
inductive RepLs (P:Nat→Prop) (σ:AH):List AV→List It→Prop
 | nil:RepLs P σ [] []
 | cons {v:AV} {vs:List AV} {i:It} {is:List It} (x:RepL P σ v i) (y:RepLs P σ vs is):RepLs P σ (v :: vs) (i :: is)
end
section
variable {P P':Nat→Prop}
theorem RepLs.ind {M:List AV→List It→Prop} (h0:M [] []) (h1:∀ {v vs i is},RepL P σ v i→RepLs P σ vs is→M vs is→M (v :: vs) (i :: is)) {vs:List AV} {is:List It} (x:RepLs P σ vs is):M vs is:=by
 refine @RepLs.rec P σ (λ zz zz zz=>True) (λ vs is zz=>M vs is) ?_ ?_ h0 (λ x y zz ih=>h1 x y ih) vs is x
 all_goals (intros;trivial)
theorem RepL.move (hp:∀ x,P x→P' x) (hk:∀ x o,P x→σ[x]? = some o→σ'[x]? = some o) {v:AV} {i:It} (x:RepL P σ v i):RepL P' σ' v i:=
 @RepL.rec P σ (λ v i zz=>RepL P' σ' v i) (λ vs is zz=>RepLs P' σ' vs is) (λ h=>.word h) (λ a b h l zz m k ih=>.list (hp _ a) (hp _ b) (hk _ _ a h) (hk _ _ b l) ih m k) .nil (λ zz zz x y=>.cons x y) v i x
theorem RepLs.move (hp:∀ x,P x→P' x) (hk:∀ x o,P x→σ[x]? = some o→σ'[x]? = some o) {vs:List AV} {is:List It} (x:RepLs P σ vs is):RepLs P' σ' vs is:=
 x.ind (M:=λ vs is=>RepLs P' σ' vs is) .nil λ x zz ih=>.cons (x.move hp hk) ih
theorem RepLs.length {vs:List AV} {is:List It} (x:RepLs P σ vs is):vs.length=is.length:=x.ind (M:=λ vs is=>vs.length=is.length) rfl λ zz zz e=>congrArg Nat.succ e
theorem RepLs.at {vs:List AV} {is:List It} {k:Nat} {i:It} (x:RepLs P σ vs is) (e:is[k]? = some i):∃ v,vs[k]? = some v∧RepL P σ v i:=
 x.ind (M:=λ vs is=>∀ {k:Nat},is[k]? = some i→∃ v,vs[k]? = some v∧RepL P σ v i) (λ e=>nomatch e) (λ {v _ _ _} x _ ih {k} e=>by
  cases k with
  | zero=>cases e;exact⟨v,rfl,x⟩
  | succ k=>exact ih (k:=k) e) e
theorem RepLs.drop {vs:List AV} {is:List It} (k:Nat) (x:RepLs P σ vs is):RepLs P σ (vs.drop k) (is.drop k):=
 x.ind (M:=λ vs is=>∀ k,RepLs P σ (vs.drop k) (is.drop k)) (λ k=>by cases k<;>exact .nil) (λ x y ih k=>by
  cases k with
  | zero=>exact .cons x y
  | succ k=>exact ih k) k
end
theorem RepL.no {P:Nat→Prop} {v:AV} {i:It} (x:RepL P σ v i) (k:Kp NoP σ σ'):RepL P σ' v i:=x.move (λ zz h=>h) λ y o zz e=>k.2 y o (λ h=>h) e
theorem RepLs.no {P:Nat→Prop} {v:List AV} {i:List It} (x:RepLs P σ v i) (k:Kp NoP σ σ'):RepLs P σ' v i:=x.move (λ zz h=>h) λ y o zz e=>k.2 y o (λ h=>h) e
noncomputable abbrev Rv {α:Type} (σ₀:AH) (m:PM α) (σ:AH) (b:α):Prop:=Rs (λ zz=>False) σ₀ m σ true (λ v zz=>v=b)
section
variable {α β:Type}
theorem Rv.run {m:PM α} {f:α→PM β} {v:α} {σ₁:AH} {b:β} (h:m σ=some (.ok v,σ₁)) (x:Rv σ₀ (f v) σ₁ b):Rv σ₀ (m>>=f) σ b:=Rs.run h x
theorem Rv.bind {m:PM α} {f:α→PM β} {v:α} {b:β} (x:Rv σ₀ m σ v) (y:∀ σ₁,Kp NoP σ₀ σ₁→Rv σ₀ (f v) σ₁ b):Rv σ₀ (m>>=f) σ b:=Rs.bind x λ zz u σ₁ k e=>by subst e;exact y σ₁ k
theorem Rv.ret {v:α} (k:Kp NoP σ₀ σ):Rv σ₀ (pure v) σ v:=.good rfl v σ rfl k rfl
theorem Rv.of {m:PM α} {v:α} {σ₁:AH} (h:m σ=some (.ok v,σ₁)) (k:Kp NoP σ₀ σ₁):Rv σ₀ m σ v:=.good rfl v σ₁ h k rfl
theorem Rv.base {m:PM α} {v:α} (k:Kp NoP σ₀ σ) (x:Rv σ m σ v):Rv σ₀ m σ v:=Rs.base k x
theorem Rv.out {m:PM α} {v:α} (x:Rv σ₀ m σ v):∃ σ₁,m σ=some (.ok v,σ₁)∧Kp NoP σ₀ σ₁:=by
 cases x with
 | good zz u σ₁ e k p=>subst p;exact⟨σ₁,e,k⟩
 | bad h=>cases h
theorem Rv.toB {m:PM Bool} {b:Bool} (x:Rv σ₀ m σ b):Rv σ₀ (m>>=λ b=>pure (AV.bool b)) σ (.bool b):=x.bind λ zz k=>Rv.ret k
theorem Rv.not {m:PM Bool} {b:Bool} (x:Rv σ₀ m σ b):Rv σ₀ (m>>=λ b=>pure !b) σ (!b):=x.bind λ zz k=>Rv.ret k
theorem Rv.tt {m:PM AV} {b:Bool} (x:Rv σ₀ m σ (.bool b)):Rv σ₀ (m>>=λ v=>truthA v) σ b:=x.bind λ zz k=>.of rfl k
theorem Rv.andA {m n:PM AV} {r:List (PM AV)} {a b:Bool} (x:Rv σ₀ m σ (.bool a)) (y:a=true→∀ σ₁,Kp NoP σ₀ σ₁→Rv σ₀ (boolA .And (n :: r)) σ₁ (.bool b)):Rv σ₀ (boolA .And (m :: n :: r)) σ (.bool (a && b)):=by
 refine ex12 (x.out) λ σ₁ e k=>?_
 refine Rv.run e (Rv.run (σ₁:=σ₁) (v:=a) rfl ?_)
 clear x e m
 cases a
 ·exact Rv.ret k
 ·exact y rfl σ₁ k
theorem Rv.orA {m n:PM AV} {r:List (PM AV)} {a b:Bool} (x:Rv σ₀ m σ (.bool a)) (y:a=false→∀ σ₁,Kp NoP σ₀ σ₁→Rv σ₀ (boolA .Or (n :: r)) σ₁ (.bool b)):Rv σ₀ (boolA .Or (m :: n :: r)) σ (.bool (a || b)):=by
 refine ex12 (x.out) λ σ₁ e k=>?_
 refine Rv.run e (Rv.run (σ₁:=σ₁) (v:=a) rfl ?_)
 clear x e m
 cases a
 ·exact y rfl σ₁ k
 ·exact Rv.ret k
theorem Rv.andT {m:PM Bool} {r:List (PM Bool)} {a b:Bool} (x:Rv σ₀ m σ a) (y:a=true→∀ σ₁,Kp NoP σ₀ σ₁→Rv σ₀ (boolT .And r) σ₁ b):Rv σ₀ (boolT .And (m :: r)) σ (a && b):=by
 refine ex12 (x.out) λ σ₁ e k=>?_
 refine Rv.run e ?_
 clear x e m
 cases a
 ·exact Rv.ret k
 ·exact y rfl σ₁ k
theorem Rv.one {m:PM Bool} {op:BoolOp} {b:Bool} (x:Rv σ₀ m σ b):Rv σ₀ (boolT op [m]) σ b:=by
 refine ex12 (x.out) λ σ₁ e k=>?_
 exact .of (run_bind e (by cases op<;>cases b<;>rfl)) k
end
theorem inList {s:List Nat} {j:Nat} {l:List (List Nat)} (h:σ[j]? = some (.list (l.map .str))):cmpV σ .In (.str s) (.obj j)=some (decide (s∈l)):=by
 refine rwb (inFlat_str ..) ?_
 have e:inA σ (.str s) (.obj j)=match σ[j]? with | some (.list l)=>inFlat (.str s) l | _=>Option.none:=by
  cases s with
  | nil=>rfl
  | cons c s=>cases s<;>rfl
 show inA σ (.str s) (.obj j)=_
 refine rwg (e ..) ?_
 refine rwg (h ..) rfl
theorem rv_in {s:List Nat} {l:List (List Nat)} (hl:l.length≤maxLen) (k:Kp NoP σ₀ σ):Rv σ₀ (newL (l.map .str)>>=λ v=>cmpA .In (.str s) v) σ (decide (s∈l)):=
 .of (run_bind (run_newL (by rw [List.length_map];exact hl)) (run_cmp (inList (get_push _ _)))) (k.to _)
noncomputable def coreKs:List (List Nat):=[[110,97,109,101],[99,111,114,101],[108,105,116,101,114,97,108]]
theorem kn_core (it:It):decide (kn it∈coreKs)=it.isCore:=by cases it<;>rfl
theorem rv_core (it:It) (k:Kp NoP σ₀ σ):Rv σ₀ (callF tb0 fuel (d + 1) 790 [.str (kn it)]) σ (.bool it.isCore):=by
 rw [den_790]
 have:=(rv_in (s:=kn it) (l:=coreKs) (by decide) k).toB
 rw [kn_core] at this
 exact this
noncomputable def sortB (s:List Nat):Bool:=decide (s∈keyWs) || (decide (s∈bareWords) && decide (lookB digWords (s.filter (·≠45))=some (lookW intWords s).isSome))
theorem sort_all:∀ s∈allWs,sortB s=true:=by
 have:allWs.all sortB=true:=by decide +kernel
 exact λ s h=>List.all_eq_true.mp this s h
theorem rv_sort {P:Nat→Prop} {v:AV} {it:It} (x:RepL P σ v it) (k:Kp NoP σ₀ σ):Rv σ₀ (callF tb0 fuel (d + 2) 804 [v]) σ (.str (kn it)):=by
 rw [den_804]
 cases x with
 | @list i j x y vs is zz a b h l X m kk=>
  have hi:isOf tb0 σ (.obj i) (.bi .list)=some true:=by
   show (match σ[i]? with | some (.list zz)=>some true | _=>Option.none)=_
   refine rwg (h ..) rfl
  exact Rv.run (run_tt (run_inst hi)) (.of (run_sub h (k:=3) rfl rfl) k)
 | @word s h=>
  refine Rv.run (run_tt (b:=false) (run_inst rfl)) ?_
  have hb:=sort_all s h
  have e714:callF tb0 fuel (d + 1) 714 [] σ=some (.ok (.obj σ.length),σ++[.list (keyWs.map .str)]):=by
   rw [den_714]
   exact run_newL (by decide)
  refine Rv.run (run_bind e714 (run_cmp (inList (get_push _ _)))) ?_
  have k1:=k.to [.list (keyWs.map .str)]
  unfold itW
  cases hk:decide (s∈keyWs) with
  | true=>rw [if_pos (of_decide_eq_true hk)];exact Rv.ret k1
  | false=>
   refine rwg (if_neg (of_decide_eq_false hk) ..) ?_
   unfold sortB at hb
   rw [hk,Bool.false_or] at hb
   obtain⟨b1,b2⟩:=Bool.and_eq_true_iff.mp hb
   have b1:=of_decide_eq_true b1
   have b2:=of_decide_eq_true b2
   have eb:onBare (.str s) (σ++[.list (keyWs.map .str)])=some (.ok (.str (s.filter (·≠45))),σ++[.list (keyWs.map .str)]):=by
    show (if s∈bareWords then pure (AV.str (s.filter (·≠45))) else PM.fail:PM AV) _=_
    rw [if_pos b1];rfl
   have ed:callM ⟨tb0,callF tb0 fuel (d + 1),fuel⟩ .isdigit (.str (s.filter (·≠45))) [] (σ++[.list (keyWs.map .str)])=some (.ok (.bool (lookW intWords s).isSome),σ++[.list (keyWs.map .str)]):=by
    show PM.ofOpt ((lookB digWords (s.filter (·≠45))).map AV.bool) _=_
    rw [b2];rfl
   refine Rv.run (run_tt (run_bind eb (run_bind (v:=Mt.isdigit) (σ₁:=σ++[.list (keyWs.map .str)]) rfl ed))) ?_
   cases lookW intWords s with
   | none=>exact Rv.ret k1
   | some n=>exact Rv.ret k1
end
section
variable {σ σ' σ₀:AH} {fuel d:Nat} {P:Nat→Prop}
theorem gd_some {b:Bool} {x y:It} (h:gd b x=some y):y=x:=by
 cases b
 ·cases h
 ·cases h;rfl
theorem kdK_plain {w:List Nat} {is:List It} {x:It} (h:kdK w is=some x):x.isList=false:=form_plain (kdK_form h)
theorem kd_list {is js:List It} (h:kd is=some (.list js)):js=is:=by
 cases is with
 | nil=>cases h;rfl
 | cons x r=>
  cases x with
  | key w=>exact Bool.noConfusion (show true=false from kdK_plain (w:=w) h)
  | _=>cases h;rfl
theorem kn_list (it:It):decide (kn it=[108,105,115,116])=it.isList:=by cases it<;>rfl
theorem kn_name (it:It):decide (kn it=[110,97,109,101])=it.isName:=by cases it<;>rfl
theorem kn_num (it:It):decide (kn it=[110,117,109,98,101,114])=it.isNum:=by cases it<;>rfl
theorem kn_way (it:It):decide (kn it=[119,97,121])=it.isWay:=by cases it<;>rfl
theorem kn_lit (it:It):decide (kn it=[108,105,116,101,114,97,108])=it.isLit:=by cases it<;>rfl
theorem kn_els (it:It):decide (kn it=[101,108,115,101])=it.isEls:=by cases it<;>rfl
theorem kn_key (it:It):decide (kn it=[107,101,121])=it.isKey:=by cases it<;>rfl
theorem rv_eq {a b:List Nat} (k:Kp NoP σ₀ σ):Rv σ₀ (cmpA .Eq (.str a) (.str b)) σ (decide (a=b)):=.of (run_cmp eq_str) k
theorem rv_ne {a b:List Nat} (k:Kp NoP σ₀ σ):Rv σ₀ (cmpA .NotEq (.str a) (.str b)) σ (!decide (a=b)):=.of (run_cmp rfl) k
theorem rv_eqI {a b:Int} (k:Kp NoP σ₀ σ):Rv σ₀ (cmpA .Eq (.int a) (.int b)) σ (decide (a=b)):=.of (run_cmp rfl) k
noncomputable abbrev flt (test:AV→PM Bool) (fuel:Nat) (v:AV):PM AV:=srcOf v>>=λ src=>goN (λ x=>boolT .And [test x]>>=λ ok=>match ok with | true=>pure [x] | false=>pure []) src fuel 0>>=λ vs=>newL vs
theorem rs_goF {test:AV→PM Bool} {l:List AV} {is:List It} {s:Nat} (p:It→Bool) (hs:σ₀[s]? = some (.list l)) (hl:l.length=is.length) (hm:is.length≤9000) (ht:∀ (k:Nat) (v:AV) (it:It),l[k]? = some v→is[k]? = some it→∀ σ',Kp NoP σ₀ σ'→Rv σ₀ (test v) σ' (p it)):
  ∀ (m idx n:Nat) (σ:AH),is.length=idx + m→m < n→Kp NoP σ₀ σ→Rs (λ zz=>False) σ₀ (goN (λ x=>boolT .And [test x]>>=λ ok=>match ok with | true=>pure [x] | false=>pure []) (.lst s) n idx) σ true (λ x zz=>decide (0 < x.length)=(is.drop idx).any p∧x.length≤m)
 | 0,idx,n + 1,σ,h1,h2,k=>by
  rw [List.drop_eq_nil_of_le (by lia)]
  exact .good rfl [] σ (goN_end (by rw [nextA_lst (k.2 _ _ (λ h=>h) hs),List.getElem?_eq_none (by lia)])) k ⟨rfl,Nat.le_refl _⟩
 | m + 1,idx,n + 1,σ,h1,h2,k=>by
  have hv:l[idx]? = some (l[idx]'(by lia)):=List.getElem?_eq_getElem (by lia)
  rw [List.drop_eq_getElem_cons (by lia)]
  refine Rs.eq (goN_step (by rw [nextA_lst (k.2 _ _ (λ h=>h) hs),hv]) (by unfold maxLen;lia)) ?_
  refine ex12 ((ht idx _ _ hv (List.getElem?_eq_getElem (by lia)) σ k).one (op:=.And) |>.out) λ σ₁ e1 k1=>?_
  have ih:=rs_goF p hs hl hm ht m (idx + 1) n σ₁ (by lia) (by lia) k1
  cases ih with
  | bad h=>cases h
  | good zz x σ₂ e2 k2 hx=>
   obtain⟨h3,h4⟩:=hx
   cases hp:p (is[idx]'(by lia)) with
   | true=>
    rw [hp] at e1
    refine .good rfl _ σ₂ (run_bind (v:=[l[idx]'(by lia)]) (σ₁:=σ₁) (run_bind e1 rfl) (run_bind e2 rfl)) k2 ⟨?_,by rw [List.length_append];show 1 + x.length≤m + 1;lia⟩
    refine rwg (List.any_cons ..) ?_
    refine rwg (hp ..) ?_
    refine rwg (Bool.true_or ..) ?_
    exact decide_eq_true (by rw [List.length_append];show 0 < 1 + x.length;lia)
   | false=>
    rw [hp] at e1
    refine .good rfl _ σ₂ (run_bind (v:=[]) (σ₁:=σ₁) (run_bind e1 rfl) (run_bind e2 rfl)) k2 ⟨?_,by show ([]++x).length≤m + 1;rw [List.nil_append];lia⟩
    refine rwg (List.any_cons ..) ?_
    refine rwg (hp ..) ?_
    refine rwg (Bool.false_or ..) ?_
    exact h3
theorem rs_flt {test:AV→PM Bool} {l:List AV} {is:List It} {s:Nat} (hf:10000≤fuel) (p:It→Bool) (k0:Kp NoP σ₀ σ) (hs:σ[s]? = some (.list l)) (hl:l.length=is.length) (hm:is.length≤9000) (ht:∀ (k:Nat) (v:AV) (it:It),l[k]? = some v→is[k]? = some it→∀ σ',Kp NoP σ σ'→Rv σ (test v) σ' (p it)):
  Rs (λ zz=>False) σ₀ (flt test fuel (.obj s)) σ true (λ v σ'=>∃ g fs,v = .obj g∧σ'[g]? = some (.list fs)∧decide (0 < fs.length)=is.any p):=by
 refine Rs.base k0 (Rs.run (v:=.lst s) (run_bind (run_lsO hs) rfl) (Rs.bind (ok1:=true) (ok2:=true) (rs_goF p hs hl hm ht is.length 0 fuel σ (by lia) (by lia) (.refl _)) λ zz x σ₁ k1 h=>?_))
 exact .good rfl _ _ (run_newL (by unfold maxLen;have:=h.2;lia)) (k1.to _) ⟨_,_,rfl,get_push _ _,h.1⟩
theorem rv_none {test:AV→PM Bool} {l:List AV} {is:List It} {s:Nat} (hf:10000≤fuel) (p:It→Bool) (k0:Kp NoP σ₀ σ) (hs:σ[s]? = some (.list l)) (hl:l.length=is.length) (hm:is.length≤9000) (ht:∀ (k:Nat) (v:AV) (it:It),l[k]? = some v→is[k]? = some it→∀ σ',Kp NoP σ σ'→Rv σ (test v) σ' (p it)):
  Rv σ₀ (flt test fuel (.obj s)>>=λ v=>newL []>>=λ w=>cmpA .Eq v w) σ (!is.any p):=by
 refine Rs.bind (ok1:=true) (ok2:=true) (rs_flt hf p k0 hs hl hm ht) λ zz v σ₁ k1 h=>?_
 refine ex23 (h) λ g fs rr2 h2 h3=>?_
 clear ht hm hl hs k0 hf h zz s l test
 subst rr2
 refine rwb (h3 ..) ?_
 exact Rv.of (run_empty h2) (k1.to _)
theorem run_emptyN {g:Nat} {fs:List AV} (h:σ[g]? = some (.list fs)):(newL []>>=λ v=>cmpA .NotEq (.obj g) v) σ=some (.ok (decide (0 < fs.length)),σ++[.list []]):=by
 refine run_bind (run_newL (Nat.zero_le _)) (run_cmp ?_)
 have lg:=lt_of_get h
 show (match (σ++[AO.list []])[g]?,(σ++[AO.list []])[σ.length]? with
  | some (.list a),some (.list b)=>if g=σ.length then Option.none else eqLists a b
  | zz,zy=>Option.none).map (!·)=_
 refine rwg (getApp h ..) ?_
 refine rwg (get_push ..) ?_
 show (if g=σ.length then Option.none else eqLists fs []).map (!·)=_
 rw [if_neg (by lia)]
 clear h lg g
 cases fs with
 | nil=>rfl
 | cons a r=>rfl
theorem rv_some {test:AV→PM Bool} {l:List AV} {is:List It} {s:Nat} (hf:10000≤fuel) (p:It→Bool) (k0:Kp NoP σ₀ σ) (hs:σ[s]? = some (.list l)) (hl:l.length=is.length) (hm:is.length≤9000) (ht:∀ (k:Nat) (v:AV) (it:It),l[k]? = some v→is[k]? = some it→∀ σ',Kp NoP σ σ'→Rv σ (test v) σ' (p it)):
  Rv σ₀ (flt test fuel (.obj s)>>=λ v=>newL []>>=λ w=>cmpA .NotEq v w) σ (is.any p):=by
 refine Rs.bind (ok1:=true) (ok2:=true) (rs_flt hf p k0 hs hl hm ht) λ zz v σ₁ k1 h=>?_
 refine ex23 (h) λ g fs rr2 h2 h3=>?_
 clear ht hm hl hs k0 hf h zz s l test
 subst rr2
 refine rwb (h3 ..) ?_
 exact Rv.of (run_emptyN h2) (k1.to _)
theorem not_any (p:It→Bool):∀ is:List It,(!is.any λ it=>!p it)=is.all p
 | []=>rfl
 | it :: r=>by
  refine rwg (List.any_cons ..) ?_
  refine rwg (List.all_cons ..) ?_
  refine rwg (Bool.not_or ..) ?_
  refine rwg (Bool.not_not ..) ?_
  refine rwg (not_any p r ..) rfl
theorem Rv.asc {α:Type} {m:PM α} {f:α→PM Bool} {b:Bool} (x:Rv σ₀ (m>>=f) σ b):Rv σ₀ (m>>=λ v=>f v>>=λ b=>pure (AV.bool b)) σ (AV.bool b):=by
 have:=x.toB
 rw [PM.bind_assoc] at this
 exact this
theorem Rv.runl {α β γ:Type} {m:PM α} {f:α→PM β} {g:β→PM γ} {v:α} {σ₁:AH} {b:γ} (h:m σ=some (.ok v,σ₁)) (x:Rv σ₀ (f v>>=g) σ₁ b):Rv σ₀ ((m>>=f)>>=g) σ b:=Rs.eq (run_bind_l h) x
theorem Rv.seq1 {β:Type} {m:PM AV} {f:List AV→PM β} {v:AV} {σ₁:AH} {b:β} (h:m σ=some (.ok v,σ₁)) (x:Rv σ₀ (f [v]) σ₁ b):Rv σ₀ (seqA [m]>>=f) σ b:=Rs.eq (run_seq h (run_nil rfl)) x
theorem Rv.seq1v {β:Type} {m:PM AV} {f:List AV→PM β} {v:AV} {b:β} (h:Rv σ₀ m σ v) (x:∀ σ₁,Kp NoP σ₀ σ₁→Rv σ₀ (f [v]) σ₁ b):Rv σ₀ (seqA [m]>>=f) σ b:=by
 obtain⟨σ₁,e,k⟩:=h.out
 exact Rv.seq1 e (x σ₁ k)
theorem RepL.lst {v:AV} {it:It} (x:RepL P σ v it):(isOf tb0 σ v (.bi .list)=some false∧it.isList=false)∨∃ i j y z vs is,v = .obj i∧isOf tb0 σ v (.bi .list)=some true∧σ[i]? = some (.list [.obj j,y,z,.str (kn it)])∧σ[j]? = some (.list vs)∧RepLs P σ vs is∧is.length≤9000∧kd is=some it:=by
 cases x with
 | @word s h=>
  refine .inl ⟨rfl,?_⟩
  unfold itW
  by_cases hk:s∈keyWs
  ·rw [if_pos hk];rfl
  ·rw [if_neg hk];cases lookW intWords s<;>rfl
 | @list i j y z vs is zz a b h l X m k=>
  refine .inr ⟨i,j,y,z,vs,is,rfl,?_,h,l,X,m,k⟩
  show (match σ[i]? with | some (.list zz)=>some true | _=>Option.none)=_
  refine rwg (h ..) rfl
theorem rv_isL {i j:Nat} {y z:AV} {it:It} (h:σ[i]? = some (.list [.obj j,y,z,.str (kn it)])) (k:Kp NoP σ σ'):Rv σ ((subA (.obj i) (.int 3))>>=λ v1=>((cmpA .Eq v1 (.str [108,105,115,116]))>>=λ b=>pure (AV.bool b))) σ' (AV.bool it.isList):=by
 have:=(rv_eq (a:=kn it) (b:=[108,105,115,116]) k).toB
 rw [kn_list] at this
 exact Rv.run (run_sub (k.2 _ _ (λ h=>h) h) (k:=3) rfl rfl) this
theorem sub0 {i j:Nat} {l:List AV} (h:σ[i]? = some (.list (.obj j :: l))) (k:Kp NoP σ σ'):subA (.obj i) (.int 0) σ'=some (.ok (.obj j),σ'):=run_sub (k.2 _ _ (λ h=>h) h) (k:=0) rfl rfl
theorem rv_names {v:AV} {it:It} (hf:10000≤fuel) (x:RepL P σ v it) (k:Kp NoP σ₀ σ):Rv σ₀ (callF tb0 fuel (d + 3) 809 [v]) σ (.bool it.isNames):=by
 rw [den_809]
 refine Rv.base k ?_
 rcases x.lst with ⟨h1,h2⟩ | ⟨i,j,y,z,vs,is,rfl,h1,h2,h3,X,m,hk⟩
 ·have e:it.isNames=false:=by unfold It.isNames;rw [h2];rfl
  rw [e]
  exact Rv.andA (a:=false) (b:=true) (.of (run_inst h1) (.refl _)) λ h=>nomatch h
 ·refine Rv.andA (a:=true) (b:=it.isNames) (.of (run_inst h1) (.refl _)) λ zz σ₁ k1=>?_
  unfold It.isNames
  refine Rv.andA (rv_isL h2 k1) λ hl σ₂ k2=>?_
  have eis:it.parts=is:=by
   clear k x hf k2 σ₂ k1 σ₁ zz m X h3 vs h2 h1 z y j i
   cases it with
   | list js=>exact kd_list hk
   | _=>cases hl
  refine rwg (eis ..) ?_
  refine rwb (not_any ..) ?_
  have k2':=k2
  refine Rv.asc (Rv.runl (sub0 h2 k2) (rv_none hf (λ it=>!it.isName) k2 (k2.2 _ _ (λ h=>h) h3) X.length m λ n v it' hv hi σ' k'=>?_))
  refine ex12 (X.at hi) λ v' hv' x'=>?_
  rw [hv] at hv'
  cases hv'
  refine (rv_sort (x'.no (k2.trans k')) k').bind λ σ₁ k=>?_
  have:=rv_ne (a:=kn it') (b:=[110,97,109,101]) k
  rw [kn_name] at this
  exact this
theorem rv_bind {v:AV} {it:It} (x:RepL P σ v it) (k:Kp NoP σ₀ σ):Rv σ₀ (callF tb0 fuel (d + 3) 797 [v]) σ (.bool it.isBind):=by
 rw [den_797]
 refine Rv.base k ?_
 rcases x.lst with ⟨h1,h2⟩ | ⟨i,j,y,z,vs,is,rfl,h1,h2,h3,X,m,hk⟩
 ·have e:it.isBind=false:=by unfold It.isBind;rw [h2];rfl
  rw [e]
  exact Rv.andA (a:=false) (b:=true) (.of (run_inst h1) (.refl _)) λ h=>nomatch h
 ·refine Rv.andA (a:=true) (b:=it.isBind) (.of (run_inst h1) (.refl _)) λ zz σ₁ k1=>?_
  unfold It.isBind
  refine Rv.andA (rv_isL h2 k1) λ hl σ₂ k2=>?_
  have eis:it.parts=is:=by
   clear k x k2 σ₂ k1 σ₁ zz m X h3 vs h2 h1 z y j i
   cases it with
   | list js=>exact kd_list hk
   | _=>cases hl
  refine rwg (eis ..) ?_
  have lv:=X.length
  have h2':=k2.2 _ _ (λ h=>h) h3
  have r2:=(rv_eqI (a:=(vs.length:Int)) (b:=2) k2).toB
  rw [(decide_eq_decide.mpr (by lia):decide ((vs.length:Int)=2)=decide (is.length=2))] at r2
  refine Rv.andA (Rv.run (run_seq (sub0 h2 k2) (run_nil (run_len h2'))) r2) λ hn σ₃ k3=>?_
  have hn:=of_decide_eq_true hn
  have hi0:is[0]? = some (is[0]'(by lia)):=List.getElem?_eq_getElem _
  have hi1:is[1]? = some (is[1]'(by lia)):=List.getElem?_eq_getElem _
  generalize (is[0]'(by lia))=it0 at hi0
  generalize (is[1]'(by lia))=it1 at hi1
  refine ex12 (X.at hi0) λ v0 hv0 x0=>?_
  refine ex12 (X.at hi1) λ v1 hv1 x1=>?_
  rw [at_some hi0,at_some hi1]
  have part:∀ {n:Nat} {u:AV} {w:Int} {σ':AH},vs[n]? = some u→w=(n:Nat)→Kp NoP σ σ'→(subA (.obj i) (.int 0)>>=λ v4=>subA v4 (.int w)) σ'=some (.ok u,σ'):=λ hu hw k=>run_bind (sub0 h2 k) (run_sub (k.2 _ _ (λ h=>h) h3) hu hw)
  refine Rv.andA (a:=it0.isName) (b:=it1.isCore) ?_ λ zz σ₄ k4=>?_
  ·refine Rv.asc (Rv.bind (Rv.seq1 (part (n:=0) hv0 rfl k3) (rv_sort (x0.no k3) k3)) λ σ₄ k4=>?_)
   have r:=rv_eq (a:=kn it0) (b:=[110,97,109,101]) k4
   rw [kn_name] at r
   exact r
  ·exact Rv.seq1v (Rv.seq1 (part (n:=1) hv1 rfl k4) (rv_sort (x1.no k4) k4)) λ σ₅ k5=>rv_core it1 k5
end
section
variable {σ σ' σ₀:AH} {fuel d:Nat} {P:Nat→Prop}
noncomputable def knV (it:It):AV:=.str (kn it)
noncomputable def knO:Option It→AV
 | some it=>knV it
 | none=>.none
theorem goN_sorts {vs:List AV} {is:List It} {j:Nat} (hs:σ₀[j]? = some (.list vs)) (X:RepLs P σ₀ vs is) (hm:is.length≤9000):∀ (m idx n:Nat) (σ:AH),is.length=idx + m→m < n→Kp NoP σ₀ σ→Rv σ₀ (goN (λ x1=>((callF tb0 fuel (d + 2) 804 [x1])>>=λ y=>pure [y])) (.lst j) n idx) σ ((is.drop idx).map knV)
 | 0,idx,n + 1,σ,h1,h2,k=>by
  rw [List.drop_eq_nil_of_le (by lia)]
  exact .of (goN_end (by rw [nextA_lst (k.2 _ _ (λ h=>h) hs),List.getElem?_eq_none (by have:=X.length;lia)])) k
 | m + 1,idx,n + 1,σ,h1,h2,k=>by
  refine ex12 (X.at (List.getElem?_eq_getElem (by lia):is[idx]? = some (is[idx]'(by lia)))) λ v hv x=>?_
  rw [List.drop_eq_getElem_cons (by lia)]
  refine Rs.eq (goN_step (by rw [nextA_lst (k.2 _ _ (λ h=>h) hs),hv]) (by unfold maxLen;lia)) ?_
  exact Rv.bind ((rv_sort (x.no k) k).bind λ σ₁ k1=>Rv.ret k1) λ σ₁ k1=>(goN_sorts hs X hm m (idx + 1) n σ₁ (by lia) (by lia) k1).bind λ σ₂ k2=>Rv.ret k2
structure KC (P:Nat→Prop) (σ:AH) (j g:Nat) (vs:List AV) (is:List It):Prop where
 l:σ[j]? = some (.list vs)
 X:RepLs P σ vs is
 s:σ[g]? = some (.list (is.map knV))
 m:is.length≤9000
theorem Rv.fin {m:PM AV} {f:Bool→PM AV} {b:Bool} {it:It} (x:Rv σ₀ m σ (.bool b)) (h1:f true=pure (knV it)) (h0:f false=pure .none):Rv σ₀ (m>>=λ x=>truthA x>>=f) σ (knO (gd b it)):=by
 refine x.bind λ σ₁ k=>Rv.run (v:=b) (σ₁:=σ₁) rfl ?_
 clear x m
 cases b
 ·rw [h0];exact Rv.ret k
 ·rw [h1];exact Rv.ret k
theorem Rv.finT {m:PM Bool} {f:Bool→PM AV} {b:Bool} {it:It} (x:Rv σ₀ m σ b) (h1:f true=pure (knV it)) (h0:f false=pure .none):Rv σ₀ (m>>=f) σ (knO (gd b it)):=by
 refine x.bind λ σ₁ k=>?_
 cases b
 ·rw [h0];exact Rv.ret k
 ·rw [h1];exact Rv.ret k
section
variable {j g:Nat} {vs:List AV} {is:List It}
theorem KC.srt (C:KC P σ₀ j g vs is) (k:Kp NoP σ₀ σ) {n:Nat} {it:It} {z:Int} (hi:is[n]? = some it) (hz:z=(n:Nat)):subA (.obj g) (.int z) σ=some (.ok (.str (kn it)),σ):=
 run_sub (k.2 _ _ (λ h=>h) C.s) (by rw [List.getElem?_map,hi];rfl) hz
theorem KC.itm (C:KC P σ₀ j g vs is) (k:Kp NoP σ₀ σ) {n:Nat} {it:It} {z:Int} (hi:is[n]? = some it) (hz:z=(n:Nat)):∃ v,subA (.obj j) (.int z) σ=some (.ok v,σ)∧RepL P σ v it:=by
 refine ex12 (C.X.at hi) λ v hv x=>?_
 exact⟨v,run_sub (k.2 _ _ (λ h=>h) C.l) hv hz,x.no k⟩
theorem KC.isS (C:KC P σ₀ j g vs is) (k:Kp NoP σ₀ σ) {n:Nat} {it:It} {z:Int} {w:List Nat} {p:It→Bool} (hi:is[n]? = some it) (hz:z=(n:Nat)) (hp:∀ it,decide (kn it=w)=p it):Rv σ₀ (subA (.obj g) (.int z)>>=λ v=>cmpA .Eq v (.str w)) σ (at1 is n p):=by
 refine rwg (at_some hi ..) ?_
 refine rwb (hp ..) ?_
 exact Rv.run (C.srt k hi hz) (rv_eq k)
theorem KC.core (C:KC P σ₀ j g vs is) (k:Kp NoP σ₀ σ) {n:Nat} {it:It} {z:Int} (hi:is[n]? = some it) (hz:z=(n:Nat)):Rv σ₀ (seqA [subA (.obj g) (.int z)]>>=λ vs=>callF tb0 fuel (d + 2) 790 vs) σ (.bool (at1 is n It.isCore)):=by
 rw [at_some hi]
 exact Rv.seq1 (C.srt k hi hz) (rv_core it k)
theorem KC.nms (hf:10000≤fuel) (C:KC P σ₀ j g vs is) (k:Kp NoP σ₀ σ) {n:Nat} {it:It} {z:Int} (hi:is[n]? = some it) (hz:z=(n:Nat)):Rv σ₀ (seqA [subA (.obj j) (.int z)]>>=λ vs=>callF tb0 fuel (d + 3) 809 vs) σ (.bool (at1 is n It.isNames)):=by
 refine rwg (at_some hi ..) ?_
 refine ex12 (C.itm k hi hz) λ v e x=>?_
 exact Rv.seq1 e (rv_names hf x k)
theorem KC.prt (C:KC P σ₀ j g vs is) (k:Kp NoP σ₀ σ) {n:Nat} {it:It} {z:Int} (hi:is[n]? = some it) (hz:z=(n:Nat)) (hl:it.isList=true):∃ j2 vs2,(subA (.obj j) (.int z)>>=λ v=>subA v (.int 0)) σ=some (.ok (.obj j2),σ)∧σ[j2]? = some (.list vs2)∧RepLs P σ vs2 it.parts∧it.parts.length≤9000:=by
 refine ex12 (C.itm k hi hz) λ v e x=>?_
 rcases x.lst with ⟨h1,h2⟩ | ⟨i,j2,y,z,vs2,is2,rfl,h1,h2,h3,X,m,hk⟩
 ·rw [hl] at h2;cases h2
 ·have eis:it.parts=is2:=by
   clear hz hi k C m X h3 vs2 h2 h1 x e n z y j2 i
   cases it with
   | list js=>exact kd_list hk
   | _=>cases hl
  refine rwg (eis ..) ?_
  exact⟨j2,vs2,run_bind e (run_sub h2 (k:=0) rfl rfl),h3,X,m⟩
theorem rv_full {j2:Nat} {vs2:List AV} {is2:List It} {m:PM AV} (e:m σ=some (.ok (.obj j2),σ)) (h:σ[j2]? = some (.list vs2)) (hl:vs2.length=is2.length) (k:Kp NoP σ₀ σ):Rv σ₀ (m>>=λ v=>newL []>>=λ w=>cmpA .NotEq v w) σ (decide (0 < is2.length)):=by
 refine rwb (hl ..) ?_
 exact Rv.of (run_bind e (run_emptyN h)) (k.to _)
theorem rv_lenI {n:Nat} (hl:vs.length=is.length) (k:Kp NoP σ₀ σ) {z:Int} (hz:z=(n:Nat)):Rv σ₀ (cmpA .Eq (.int vs.length) (.int z)) σ (decide (is.length=n)):=by
 have:=rv_eqI (a:=(vs.length:Int)) (b:=z) k
 rw [show decide ((vs.length:Int)=z)=decide (is.length=n) from decide_eq_decide.mpr (by lia)] at this
 exact this
theorem rv_gt {n:Nat} (hl:vs.length=is.length) (k:Kp NoP σ₀ σ) {z:Int} (hz:z=(n:Nat)):Rv σ₀ (cmpA .Gt (.int vs.length) (.int z)) σ (decide (n < is.length)):=by
 have:Rv σ₀ (cmpA .Gt (.int vs.length) (.int z)) σ (decide (z < (vs.length:Int))):=.of (run_cmp rfl) k
 rw [show decide (z < (vs.length:Int))=decide (n < is.length) from decide_eq_decide.mpr (by lia)] at this
 exact this
end
end
section
variable {σ σ' σ₀:AH} {fuel d:Nat} {P:Nat→Prop} {j g:Nat} {vs:List AV} {is:List It}
noncomputable abbrev KR (σ₀:AH) (fuel d j g:Nat) (n:Nat) (w:List Nat) (σ:AH) (r:Option It):Prop:=Rv σ₀ (kRest (callF tb0 fuel (d + 3)) fuel (.obj j) (.obj g) (.str w) (.int n)) σ (knO r)
theorem sorts_tail {r:List It} {x:It}:decide ((r.map kn)=[[110,117,109,98,101,114]])=(decide ((x :: r).length=2) && at1 (x :: r) 1 It.isNum):=by
 match r with
 | []=>rfl
 | [a]=>
  show decide ([kn a]=[[110,117,109,98,101,114]])=(true && a.isNum)
  refine rwg (Bool.true_and ..) ?_
  refine rwb (kn_num ..) ?_
  exact decide_eq_decide.mpr ⟨λ h=>List.cons.inj h |>.1,λ h=>by rw [h]⟩
 | a :: b :: c=>
  refine rwg ((decide_eq_false (by simp):decide ((x :: a :: b :: c).length=2)=false) ..) ?_
  exact decide_eq_false (λ h=>by have:=congrArg List.length h;simp at this)
theorem eqAll_str:∀ l m:List (List Nat),l.length=m.length→eqAll (l.map .str) (m.map .str)=some (decide (l=m))
 | [],[],zz=>rfl
 | a :: r,b :: s,h=>by
  show (match some (decide (a=b)),eqAll (r.map .str) (s.map .str) with
   | some p,some q=>some (p && q)
   | zz,zy=>Option.none)=_
  refine rwg (eqAll_str r s (Nat.succ.inj h) ..) ?_
  show some (decide (a=b) && decide (r=s))=_
  refine rwb (Bool.decide_and ..) ?_
  exact congrArg some (decide_eq_decide.mpr ⟨λ h=>by rw [h.1,h.2],λ h=>List.cons.inj h⟩)
 | [],_ :: _,h=>nomatch h
 | _ :: _,[],h=>nomatch h
theorem eqLists_str (l m:List (List Nat)):eqLists (l.map .str) (m.map .str)=some (decide (l=m)):=by
 unfold eqLists
 refine rwg (List.length_map ..) ?_
 refine rwg (List.length_map ..) ?_
 by_cases h:l.length=m.length
 ·rw [if_pos h];exact eqAll_str l m h
 ·rw [if_neg h]
  exact congrArg some (decide_eq_false λ e=>h (by rw [e])).symm
theorem rv_slice {l l' m:List (List Nat)} {lo hi:AV} (h:σ[g]? = some (.list (l.map .str))) (hs:sliceL (l.map AV.str) lo hi=some (l'.map .str)) (hm:m.length≤maxLen) (k:Kp NoP σ₀ σ):Rv σ₀ (sliceA (.obj g) lo hi>>=λ v10=>(newL (m.map .str)>>=λ v11=>cmpA .Eq v10 v11)) σ (decide (l'=m)):=by
 refine Rv.of (run_bind (v:=.obj σ.length) (σ₁:=σ++[.list (l'.map .str)]) (run_bind (run_lsO h) (by rw [hs];rfl)) (run_bind (run_newL (by rw [List.length_map];exact hm)) (run_cmp ?_))) ((k.to _).to _)
 have hl:(σ++[AO.list (l'.map .str)]).length=σ.length + 1:=by rw [List.length_append];rfl
 show (match ((σ++[AO.list (l'.map .str)])++[AO.list (m.map .str)])[σ.length]?,((σ++[AO.list (l'.map .str)])++[AO.list (m.map .str)])[(σ++[AO.list (l'.map .str)]).length]? with
  | some (.list a),some (.list b)=>if σ.length=(σ++[AO.list (l'.map .str)]).length then Option.none else eqLists a b
  | zz,zy=>Option.none)=_
 refine rwg (get_push ..) ?_
 refine rwg (getApp (get_push _ _) ..) ?_
 show (if σ.length=(σ++[AO.list (l'.map .str)]).length then Option.none else eqLists (l'.map .str) (m.map .str))=_
 rw [if_neg (by lia),eqLists_str]
theorem map_knV (is:List It):is.map knV=(is.map kn).map .str:=by rw [List.map_map];rfl
theorem drop_slice (l:List (List Nat)) (n:Nat) (hn:n≤9000) {z:Int} (hz:z=n):sliceL (l.map AV.str) (.int z) .none=some ((l.drop n).map .str):=by rw [slice_from _ n hn hz,List.map_drop]
theorem num_word {v:AV} {n:Int} (x:RepL P σ v (.num n)):∃ s,v = .str s∧lookW intWords s=some n:=by
 generalize hit:It.num n=it at x
 cases x with
 | @word s h=>
  refine⟨s,rfl,?_⟩
  unfold itW at hit
  by_cases hk:s∈keyWs
  ·rw [if_pos hk] at hit;cases hit
  ·rw [if_neg hk] at hit
   cases hl:lookW intWords s with
   | none=>rw [hl] at hit;cases hit
   | some m=>rw [hl] at hit;cases hit;rfl
 | @list i j x y vs is zz a b h l X m k=>
  rw [← hit] at k
  exact (kd_form k).elim (λ q=>no_ft q) λ q=>no_ft q
theorem Rv.andA2 {m n:PM AV} {a b:Bool} (x:Rv σ₀ m σ (.bool a)) (y:a=true→∀ σ₁,Kp NoP σ₀ σ₁→Rv σ₀ n σ₁ (.bool b)):Rv σ₀ (boolA .And [m,n]) σ (.bool (a && b)):=Rv.andA x y
theorem Rv.orA2 {m n:PM AV} {a b:Bool} (x:Rv σ₀ m σ (.bool a)) (y:a=false→∀ σ₁,Kp NoP σ₀ σ₁→Rv σ₀ n σ₁ (.bool b)):Rv σ₀ (boolA .Or [m,n]) σ (.bool (a || b)):=Rv.orA x y
theorem Rv.cst {α:Type} {m:PM α} {a b:α} (x:Rv σ₀ m σ a) (h:a=b):Rv σ₀ m σ b:=h▸x
theorem rv_oneNum {r:List It} {x:It} (C:KC P σ₀ j g vs (x :: r)) (k:Kp NoP σ₀ σ):Rv σ₀ (sliceA (.obj g) (.int 1) .none>>=λ v10=>((newL [(.str [110,117,109,98,101,114])])>>=λ v11=>(cmpA .Eq v10 v11))>>=λ b=>pure (AV.bool b)) σ (AV.bool (decide ((x :: r).length=2) && at1 (x :: r) 1 It.isNum)):=by
 have hs:=k.2 _ _ (λ h=>h) C.s
 rw [map_knV] at hs
 have r1:=rv_slice (m:=[[110,117,109,98,101,114]]) hs (drop_slice _ 1 (by lia) rfl) (by decide) k
 rw [show List.drop 1 ((x :: r).map kn)=r.map kn from rfl,sorts_tail (x:=x)] at r1
 exact Rv.asc r1
theorem kr_int {r:List It} (C:KC P σ₀ j g vs (.key [105,110,116] :: r)) (k:Kp NoP σ₀ σ):KR σ₀ fuel d j g vs.length [105,110,116] σ (gd (kInt (.key [105,110,116] :: r)) .lit):=by
 refine Rv.bind (v:=true) (rv_in (l:=[[105,110,116],[99,104,97,114]]) (by decide) k) λ σ₁ k1=>?_
 exact Rv.fin ((Rv.andA2 (b:=true) (rv_oneNum C k1) λ zz σ₂ k2=>Rv.orA2 (a:=true) (b:=true) (rv_eq (a:=[105,110,116]) (b:=[105,110,116]) k2).toB λ h=>nomatch h).cst (congrArg AV.bool (Bool.and_true _))) rfl rfl
theorem kr_char {r:List It} (C:KC P σ₀ j g vs (.key [99,104,97,114] :: r)) (k:Kp NoP σ₀ σ):KR σ₀ fuel d j g vs.length [99,104,97,114] σ (gd (kChar (.key [99,104,97,114] :: r)) .lit):=by
 refine Rv.bind (v:=true) (rv_in (l:=[[105,110,116],[99,104,97,114]]) (by decide) k) λ σ₁ k1=>?_
 have e:kChar (.key [99,104,97,114] :: r)=((decide ((It.key [99,104,97,114] :: r).length=2) && at1 (It.key [99,104,97,114] :: r) 1 It.isNum) && at1 (It.key [99,104,97,114] :: r) 1 It.isChr):=by
  unfold kChar
  refine rwg (Bool.and_assoc ..) ?_
  refine rwb (at_and ..) ?_
  exact congrArg (_ && ·) (at_congr (λ it=>by cases it<;>rfl) 1)
 refine rwg (e ..) ?_
 refine Rv.fin (Rv.andA2 (rv_oneNum C k1) λ h σ₂ k2=>?_) rfl rfl
 obtain⟨h1,h2⟩:=Bool.and_eq_true_iff.mp h
 refine ex12 (at_true h2) λ it hi hn=>?_
 refine (Rv.orA2 (a:=false) (rv_eq (a:=[99,104,97,114]) (b:=[105,110,116]) k2).toB λ zz σ₃ k3=>?_).cst (congrArg AV.bool (Bool.false_or _))
 refine rwg (at_some hi ..) ?_
 refine ex12 (C.itm k3 hi (z:=1) rfl) λ v e1 x=>?_
 clear k C zz hi k2 σ₂ h k1 σ₁ e h2 h1 r
 cases it with
 | num n=>
  refine ex12 (num_word x) λ s rr1 hs=>?_
  subst rr1
  have hint:callB tb0 .int [.str s] σ₃=some (.ok (.int n),σ₃):=by
   show PM.ofOpt ((lookW intWords s).map AV.int) σ₃=_
   rw [hs];rfl
  have r1:Rv σ₀ (chainA (.int 0) [.LtE,.Lt] [(seqA [(subA (.obj j) (.int 1))]>>=λ vs12=>(callB tb0 .int vs12)),(pure (.int 1114112))]) σ₃ (decide (0≤n) && decide (n < 1114112)):=.of (run_chain2 (run_seq e1 (run_nil hint)) rfl rfl rfl) k3
  rw [← Bool.decide_and] at r1
  exact r1.toB
 | _=>cases hn
theorem skip2 {l:List (List Nat)} {w:List Nat} {f:Bool→PM AV} {b:AV} (hl:l.length≤maxLen) (k:Kp NoP σ₀ σ) (hw:decide (w∈l)=false) (x:∀ σ₁,Kp NoP σ₀ σ₁→Rv σ₀ (f false) σ₁ b):Rv σ₀ ((newL (l.map .str)>>=λ v=>cmpA .In (.str w) v)>>=f) σ b:=by
 have:=rv_in (s:=w) hl k
 rw [hw] at this
 exact this.bind x
theorem skip1 {a w:List Nat} {f:Bool→PM AV} {b:AV} (k:Kp NoP σ₀ σ) (hw:decide (w=a)=false) (x:Rv σ₀ (f false) σ b):Rv σ₀ (cmpA .Eq (.str w) (.str a)>>=f) σ b:=Rv.run (run_cmp (eq_str.trans (congrArg some hw))) x
theorem take1 {a w:List Nat} {f:Bool→PM AV} {b:AV} (k:Kp NoP σ₀ σ) (hw:decide (w=a)=true) (x:Rv σ₀ (f true) σ b):Rv σ₀ (cmpA .Eq (.str w) (.str a)>>=f) σ b:=Rv.run (run_cmp (eq_str.trans (congrArg some hw))) x
theorem rv_cores {n:Nat} {z:Int} (hf:10000≤fuel) (hz:z=n) (hn:n≤9000) (C:KC P σ₀ j g vs is) (k:Kp NoP σ₀ σ):Rv σ₀ ((sliceA (.obj g) (.int z) .none>>=λ v=>flt (λ x=>((callF tb0 fuel (d + 3) 790 [x])>>=λ v16=>truthA v16)>>=λ b=>pure !b) fuel v)>>=λ v=>newL []>>=λ w=>cmpA .Eq v w) σ ((is.drop n).all It.isCore):=by
 have hs:=k.2 _ _ (λ h=>h) C.s
 refine Rv.runl (run_bind (run_lsO hs) (by rw [slice_from _ n hn hz];rfl)) ?_
 refine rwb (not_any ..) ?_
 refine rv_none hf (λ it=>!it.isCore) (k.to _) (get_push _ _) (by rw [List.length_drop,List.length_drop,List.length_map]) (by rw [List.length_drop];have:=C.m;lia) λ m v it hv hi σ' k'=>?_
 rw [List.getElem?_drop,List.getElem?_map] at hv
 rw [List.getElem?_drop] at hi
 rw [hi] at hv
 cases hv
 exact (rv_core it k').tt.not
theorem kr_app {r:List It} (hf:10000≤fuel) (hl:vs.length=(It.key [97,112,112] :: r).length) (C:KC P σ₀ j g vs (.key [97,112,112] :: r)) (k:Kp NoP σ₀ σ):KR σ₀ fuel d j g vs.length [97,112,112] σ (gd (kApp (.key [97,112,112] :: r)) .core):=by
 refine skip2 (l:=[[105,110,116],[99,104,97,114]]) (by decide) k rfl λ σ₁ k1=>take1 k1 rfl ?_
 exact Rv.finT (Rv.andT (rv_gt (n:=2) hl k1 rfl) λ zz σ₂ k2=>(rv_cores (n:=1) hf rfl (by lia) C k2).one) rfl rfl
end
section
variable {σ σ' σ₀:AH} {fuel d:Nat} {P:Nat→Prop} {j g:Nat} {vs:List AV} {is:List It}
noncomputable abbrev l2:List (List Nat):=[[105,110,116],[99,104,97,114]]
noncomputable abbrev l3:List (List Nat):=[[108,101,116],[108,101,116,114,101,99]]
theorem at_of {is:List It} {n:Nat} (h:n < is.length):∃ it,is[n]? = some it:=⟨_,List.getElem?_eq_getElem h⟩
theorem names_list {it:It} (h:it.isNames=true):it.isList=true:=(Bool.and_eq_true_iff.mp h).1
theorem KC.ful (C:KC P σ₀ j g vs is) (k:Kp NoP σ₀ σ) {n:Nat} {it:It} {z:Int} (hi:is[n]? = some it) (hz:z=(n:Nat)) (hl:it.isList=true):Rv σ₀ ((subA (.obj j) (.int z)>>=λ v=>subA v (.int 0))>>=λ v21=>((newL []>>=λ v22=>cmpA .NotEq v21 v22)>>=λ b=>pure (AV.bool b))) σ (AV.bool (at1 is n It.isFull)):=by
 refine ex24 (C.prt k hi hz hl) λ j2 vs2 e h X m=>?_
 refine rwg (at_some hi ..) ?_
 exact Rv.asc (rv_full e h X.length k)
theorem kr_lam {r:List It} (hf:10000≤fuel) (hl:vs.length=(It.key [108,97,109] :: r).length) (C:KC P σ₀ j g vs (.key [108,97,109] :: r)) (k:Kp NoP σ₀ σ):KR σ₀ fuel d j g vs.length [108,97,109] σ (gd (kLam (.key [108,97,109] :: r)) .core):=by
 refine skip2 (l:=l2) (by decide) k rfl λ σ₁ k1=>skip1 k1 rfl (take1 k1 rfl ?_)
 refine Rv.fin (Rv.andA (rv_lenI (n:=3) hl k1 rfl).toB λ h3 σ₂ k2=>?_) rfl rfl
 have h3:=of_decide_eq_true h3
 obtain⟨i1,hi1⟩:=at_of (n:=1) (is:=.key [108,97,109] :: r) (by lia)
 obtain⟨i2,hi2⟩:=at_of (n:=2) (is:=.key [108,97,109] :: r) (by lia)
 refine Rv.andA (C.nms hf k2 hi1 rfl) λ hn σ₃ k3=>Rv.andA (C.ful k3 hi1 rfl ?_) λ zz σ₄ k4=>C.core k4 hi2 rfl
 rw [at_some hi1] at hn
 exact names_list hn
theorem KC.bnds (hf:10000≤fuel) (C:KC P σ₀ j g vs is) (k:Kp NoP σ₀ σ) {n:Nat} {it:It} {z:Int} (hi:is[n]? = some it) (hz:z=(n:Nat)) (hl:it.isList=true):Rv σ₀ (((subA (.obj j) (.int z)>>=λ v33=>subA v33 (.int 0))>>=λ v34=>flt (λ x=>((callF tb0 fuel (d + 3) 797 [x])>>=λ v35=>truthA v35)>>=λ b=>pure !b) fuel v34)>>=λ v36=>newL []>>=λ v37=>cmpA .Eq v36 v37) σ (it.parts.all It.isBind):=by
 refine ex24 (C.prt k hi hz hl) λ j2 vs2 e h X m=>?_
 refine rwb (not_any ..) ?_
 refine Rv.runl e (rv_none hf (λ it=>!it.isBind) k h X.length m λ n v it' hv hi' σ' k'=>?_)
 refine ex12 (X.at hi') λ v' hv' x'=>?_
 rw [hv] at hv'
 cases hv'
 exact (rv_bind (x'.no k') k').tt.not
theorem kr_let0 {w:List Nat} {r:List It} (hf:10000≤fuel) (hw:w=[108,101,116]∨w=[108,101,116,114,101,99]) (hl:vs.length=(It.key w :: r).length) (C:KC P σ₀ j g vs (.key w :: r)) (k:Kp NoP σ₀ σ):KR σ₀ fuel d j g vs.length w σ (gd (kLet (.key w :: r)) .core):=by
 refine skip2 (l:=l2) (by decide) k (by rcases hw with rfl | rfl<;>rfl) λ σ₁ k1=>skip1 k1 (by rcases hw with rfl | rfl<;>rfl) (skip1 k1 (by rcases hw with rfl | rfl<;>rfl) ?_)
 refine Rv.bind (v:=true) ((rv_in (s:=w) (l:=l3) (by decide) k1).cst (by rcases hw with rfl | rfl<;>rfl)) λ σ₁ k1=>?_
 have e:kLet (.key w :: r)=((decide ((It.key w :: r).length=3) && (at1 (.key w :: r) 1 It.isList && (at1 (.key w :: r) 1 It.isFull && at1 (.key w :: r) 2 It.isCore))) && at1 (.key w :: r) 1 (λ it=>it.parts.all It.isBind)):=by
  unfold kLet
  have:at1 (.key w :: r) 1 It.isBinds=(at1 (.key w :: r) 1 It.isList && at1 (.key w :: r) 1 (λ it=>it.parts.all It.isBind)):=at_and _ _ _
  refine rwg (this ..) ?_
  generalize decide ((It.key w :: r).length=3)=a
  generalize at1 (.key w :: r) 1 It.isList=b
  generalize at1 (.key w :: r) 1 It.isFull=c
  generalize at1 (.key w :: r) 2 It.isCore=e
  generalize at1 (.key w :: r) 1 (λ it=>it.parts.all It.isBind)=f
  revert a b c e f
  decide
 refine rwg (e ..) ?_
 have first:Rv σ₀ (boolA .And [((cmpA .Eq (.int vs.length) (.int 3))>>=λ b=>pure (AV.bool b)),(((subA (.obj g) (.int 1)))>>=λ v26=>((cmpA .Eq v26 (.str [108,105,115,116]))>>=λ b=>pure (AV.bool b))),(((((subA (.obj j) (.int 1)))>>=λ v27=>(subA v27 (.int 0))))>>=λ v28=>((((newL []))>>=λ v29=>(cmpA .NotEq v28 v29))>>=λ b=>pure (AV.bool b))),(seqA [(subA (.obj g) (.int 2))]>>=λ vs30=>(callF tb0 fuel (d + 3) 790 vs30))]) σ₁ (AV.bool (decide ((It.key w :: r).length=3) && (at1 (.key w :: r) 1 It.isList && (at1 (.key w :: r) 1 It.isFull && at1 (.key w :: r) 2 It.isCore)))):=by
  refine Rv.andA (rv_lenI (n:=3) hl k1 rfl).toB λ h3 σ₂ k2=>?_
  have h3:=of_decide_eq_true h3
  obtain⟨i1,hi1⟩:=at_of (n:=1) (is:=.key w :: r) (by lia)
  obtain⟨i2,hi2⟩:=at_of (n:=2) (is:=.key w :: r) (by lia)
  refine Rv.andA (Rv.asc (C.isS k2 hi1 rfl kn_list)) λ hn σ₃ k3=>Rv.andA (C.ful k3 hi1 rfl ?_) λ zz σ₄ k4=>C.core k4 hi2 rfl
  rw [at_some hi1] at hn
  exact hn
 refine first.bind λ σ₂ k2=>Rv.finT (Rv.andT (Rv.of rfl k2) λ h σ₃ k3=>Rv.one ?_) rfl rfl
 obtain⟨h1,h⟩:=Bool.and_eq_true_iff.mp h
 have h2:=(Bool.and_eq_true_iff.mp h).1
 refine ex12 (at_true h2) λ i1 hi1 hl1=>?_
 refine rwg (at_some hi1 ..) ?_
 exact C.bnds hf k3 hi1 rfl hl1
theorem kr_of {r:List It} (hf:10000≤fuel) (hl:vs.length=(It.key [111,102] :: r).length) (C:KC P σ₀ j g vs (.key [111,102] :: r)) (k:Kp NoP σ₀ σ):KR σ₀ fuel d j g vs.length [111,102] σ (gd (kOf (.key [111,102] :: r)) .way):=by
 refine skip2 (l:=l2) (by decide) k rfl λ σ₁ k1=>skip1 k1 rfl (skip1 k1 rfl (skip2 (l:=l3) (by decide) k1 rfl λ σ₁ k1=>skip1 k1 rfl (take1 k1 rfl ?_)))
 refine Rv.fin (Rv.andA (rv_lenI (n:=4) hl k1 rfl).toB λ h3 σ₂ k2=>?_) rfl rfl
 have h3:=of_decide_eq_true h3
 obtain⟨i1,hi1⟩:=at_of (n:=1) (is:=.key [111,102] :: r) (by lia)
 obtain⟨i2,hi2⟩:=at_of (n:=2) (is:=.key [111,102] :: r) (by lia)
 obtain⟨i3,hi3⟩:=at_of (n:=3) (is:=.key [111,102] :: r) (by lia)
 exact Rv.andA (Rv.asc (C.isS k2 hi1 rfl kn_name)) λ hn σ₃ k3=>Rv.andA (C.nms hf k3 hi2 rfl) λ zz σ₄ k4=>C.core k4 hi3 rfl
theorem kr_is {r:List It} (hl:vs.length=(It.key [105,115] :: r).length) (C:KC P σ₀ j g vs (.key [105,115] :: r)) (k:Kp NoP σ₀ σ):KR σ₀ fuel d j g vs.length [105,115] σ (gd (kIs (.key [105,115] :: r)) .way):=by
 refine skip2 (l:=l2) (by decide) k rfl λ σ₁ k1=>skip1 k1 rfl (skip1 k1 rfl (skip2 (l:=l3) (by decide) k1 rfl λ σ₁ k1=>skip1 k1 rfl (skip1 k1 rfl (take1 k1 rfl ?_))))
 refine Rv.finT (Rv.andT (rv_lenI (n:=3) hl k1 rfl) λ h3 σ₂ k2=>?_) rfl rfl
 have h3:=of_decide_eq_true h3
 obtain⟨i1,hi1⟩:=at_of (n:=1) (is:=.key [105,115] :: r) (by lia)
 obtain⟨i2,hi2⟩:=at_of (n:=2) (is:=.key [105,115] :: r) (by lia)
 exact Rv.andT (C.isS k2 hi1 rfl kn_lit) λ zz σ₃ k3=>(C.core k3 hi2 rfl).tt.one
theorem kr_else {r:List It} (hl:vs.length=(It.key [101,108,115,101] :: r).length) (C:KC P σ₀ j g vs (.key [101,108,115,101] :: r)) (k:Kp NoP σ₀ σ):KR σ₀ fuel d j g vs.length [101,108,115,101] σ (gd (kElse (.key [101,108,115,101] :: r)) .els):=by
 refine skip2 (l:=l2) (by decide) k rfl λ σ₁ k1=>skip1 k1 rfl (skip1 k1 rfl (skip2 (l:=l3) (by decide) k1 rfl λ σ₁ k1=>skip1 k1 rfl (skip1 k1 rfl (skip1 k1 rfl (take1 k1 rfl ?_)))))
 refine Rv.finT (Rv.andT (rv_lenI (n:=2) hl k1 rfl) λ h3 σ₂ k2=>?_) rfl rfl
 have h3:=of_decide_eq_true h3
 obtain⟨i1,hi1⟩:=at_of (n:=1) (is:=.key [101,108,115,101] :: r) (by lia)
 exact (C.core k2 hi1 rfl).tt.one
theorem name_len {is:List It} {p:It→Bool} (h:at1 is 1 p=true):decide (1 < is.length)=true:=by
 obtain⟨it,e,_⟩:=at_true h
 exact decide_eq_true (List.getElem?_eq_some_iff.mp e).1
theorem len_and {is:List It} {p:It→Bool} {b:Bool}:(decide (1 < is.length) && (at1 is 1 p && b))=(at1 is 1 p && b):=by
 cases h:at1 is 1 p with
 | false=>rw [Bool.false_and,Bool.and_false]
 | true=>rw [name_len h,Bool.true_and]
theorem kr_con0 {w:List Nat} {r:List It} (hf:10000≤fuel) (hw:w=[99,111,110]∨w=[112,114,105,109]) (hl:vs.length=(It.key w :: r).length) (C:KC P σ₀ j g vs (.key w :: r)) (k:Kp NoP σ₀ σ):KR σ₀ fuel d j g vs.length w σ (gd (kCon (.key w :: r)) .core):=by
 have no:∀ {x:List Nat},decide ([99,111,110]=x)=false→decide ([112,114,105,109]=x)=false→decide (w=x)=false:=λ h1 h2=>by rcases hw with rfl | rfl;exact h1;exact h2
 refine skip2 (l:=l2) (by decide) k (by rcases hw with rfl | rfl<;>rfl) λ σ₁ k1=>skip1 k1 (no rfl rfl) (skip1 k1 (no rfl rfl) (skip2 (l:=l3) (by decide) k1 (by rcases hw with rfl | rfl<;>rfl) λ σ₁ k1=>skip1 k1 (no rfl rfl) (skip1 k1 (no rfl rfl) (skip1 k1 (no rfl rfl) (skip1 k1 (no rfl rfl) (skip1 k1 (no rfl rfl) ?_))))))
 have e:kCon (.key w :: r)=(decide (1 < (It.key w :: r).length) && (at1 (.key w :: r) 1 It.isName && ((It.key w :: r).drop 2).all It.isCore)):=len_and.symm
 refine rwg (e ..) ?_
 refine Rv.fin (Rv.andA (rv_gt (n:=1) hl k1 rfl).toB λ h3 σ₂ k2=>?_) rfl rfl
 refine Exists.elim (at_of (n:=1) (is:=.key w :: r) (of_decide_eq_true h3)) λ i1 hi1=>?_
 exact Rv.andA2 (Rv.asc (C.isS k2 hi1 rfl kn_name)) λ zz σ₃ k3=>Rv.asc (rv_cores (n:=2) hf rfl (by lia) C k3)
theorem kr_prog {r:List It} (hf:10000≤fuel) (hl:vs.length=(It.key [112,114,111,103,114,97,109] :: r).length) (C:KC P σ₀ j g vs (.key [112,114,111,103,114,97,109] :: r)) (k:Kp NoP σ₀ σ):KR σ₀ fuel d j g vs.length [112,114,111,103,114,97,109] σ (gd (kProg (.key [112,114,111,103,114,97,109] :: r)) .prog):=by
 refine skip2 (l:=l2) (by decide) k rfl λ σ₁ k1=>skip1 k1 rfl (skip1 k1 rfl (skip2 (l:=l3) (by decide) k1 rfl λ σ₁ k1=>skip1 k1 rfl (skip1 k1 rfl (skip1 k1 rfl (skip1 k1 rfl (take1 k1 rfl ?_))))))
 have e:kProg (.key [112,114,111,103,114,97,109] :: r)=(decide (1 < (It.key [112,114,111,103,114,97,109] :: r).length) && (at1 (.key [112,114,111,103,114,97,109] :: r) 1 It.isName && ((It.key [112,114,111,103,114,97,109] :: r).drop 2).all It.isBind)):=(Bool.and_comm _ _).trans len_and.symm
 refine rwg (e ..) ?_
 refine Rv.fin (Rv.andA (rv_gt (n:=1) hl k1 rfl).toB λ h3 σ₂ k2=>?_) rfl rfl
 obtain⟨i1,hi1⟩:=at_of (n:=1) (is:=.key [112,114,111,103,114,97,109] :: r) (of_decide_eq_true h3)
 refine Rv.andA2 (Rv.asc (C.isS k2 hi1 rfl kn_name)) λ zz σ₃ k3=>Rv.asc ?_
 have hlv:=C.X.length
 have hm:=C.m
 refine Rv.runl (run_slice (k3.2 _ _ (λ h=>h) C.l) (by lia) rfl:sliceA (.obj j) (.int 2) .none σ₃=some (.ok (.obj σ₃.length),σ₃++[.list (vs.drop 2)])) ?_
 have X3:=(C.X.no (k3.to [.list (vs.drop 2)])).drop 2
 refine rwb (not_any ..) ?_
 refine rv_none hf (λ it=>!it.isBind) (k3.to _) (get_push _ _) X3.length (by rw [List.length_drop];omega) λ n v it' hv hi' σ' k'=>?_
 refine ex12 (X3.at hi') λ v' hv' x'=>?_
 rw [hv] at hv'
 cases hv'
 exact (rv_bind (x'.no k') k').tt.not
end
section
variable {σ σ' σ₀:AH} {fuel d:Nat} {P:Nat→Prop} {j g:Nat} {vs:List AV} {is:List It}
noncomputable def sCase:List Nat:=[99,97,115,101]
theorem rv_in45 {n:Nat} (k:Kp NoP σ₀ σ):Rv σ₀ (newL [.int 4,.int 5]>>=λ v38=>cmpA .In (.int n) v38) σ (decide (n=4) || decide (n=5)):=by
 refine Rv.of (run_bind (run_newL (Nat.le_of_ble_eq_true rfl)) (run_cmp ?_)) (k.to _)
 show (match (σ++[AO.list [.int 4,.int 5]])[σ.length]? with | some (.list l)=>inFlat (.int n) l | _=>Option.none)=_
 refine rwg (get_push ..) ?_
 show some ((4:Int) == n || ((5:Int) == n || false))=_
 refine rwg (Bool.or_false ..) ?_
 have e:∀ m:Nat,((m:Int) == n)=decide (n=m):=λ m=>by
  rw [show ((m:Int) == n)=decide ((m:Int)=n) from rfl]
  exact decide_eq_decide.mpr ⟨λ h=>by lia,λ h=>by lia⟩
 exact congrArg some (congr (congrArg or (e 4)) (e 5))
theorem rv_inEls {l l':List (List Nat)} {lo hi:AV} {w:List Nat} (h:σ[g]? = some (.list (l.map .str))) (hs:sliceL (l.map AV.str) lo hi=some (l'.map .str)) (k:Kp NoP σ₀ σ):Rv σ₀ (sliceA (.obj g) lo hi>>=λ v42=>((seqA [newL [],newL [.str w]]>>=λ vs43=>newL vs43)>>=λ v44=>cmpA .In v42 v44)) σ (decide ([]=l') || decide ([w]=l')):=by
 have e0:sliceA (.obj g) lo hi σ=some (.ok (.obj σ.length),σ++[.list (l'.map .str)]):=run_bind (run_lsO h) (by rw [hs];rfl)
 have p0:=get_push σ (AO.list (l'.map .str))
 have l0:(σ++[AO.list (l'.map .str)]).length=σ.length + 1:=by rw [List.length_append];rfl
 have k0:=k.to [AO.list (l'.map .str)]
 generalize σ++[AO.list (l'.map .str)]=σ₁ at e0 p0 l0 k0
 have p1:=get_push σ₁ (AO.list [])
 have q0:(σ₁++[AO.list []])[σ.length]? = _:=getApp p0
 have l1:(σ₁++[AO.list []]).length=σ.length + 2:=by rw [List.length_append,l0];rfl
 have e1:newL [] σ₁=some (.ok (.obj (σ.length + 1)),σ₁++[AO.list []]):=by rw [← l0];exact run_newL (Nat.zero_le _)
 rw [l0] at p1
 have k1:=k0.to [AO.list []]
 generalize σ₁++[AO.list []]=σ₂ at e1 p1 q0 l1 k1
 have p2:=get_push σ₂ (AO.list [.str w])
 have q1:(σ₂++[AO.list [.str w]])[σ.length]? = _:=getApp q0
 have r1:(σ₂++[AO.list [.str w]])[σ.length + 1]? = _:=getApp p1
 have e2:newL [.str w] σ₂=some (.ok (.obj (σ.length + 2)),σ₂++[AO.list [.str w]]):=by rw [← l1];exact run_newL (Nat.le_of_ble_eq_true rfl)
 rw [l1] at p2
 have k2:=k1.to [AO.list [.str w]]
 generalize σ₂++[AO.list [.str w]]=σ₃ at e2 p2 q1 r1 k2
 refine Rv.of (run_bind e0 (run_bind (run_seq e1 (run_seq e2 (run_nil (run_newL (Nat.le_of_ble_eq_true rfl))))) (run_cmp ?_))) (k2.to _)
 have p3:=get_push σ₃ (AO.list [.obj (σ.length + 1),.obj (σ.length + 2)])
 have q2:(σ₃++[AO.list [.obj (σ.length + 1),.obj (σ.length + 2)]])[σ.length]? = _:=getApp q1
 have r2:(σ₃++[AO.list [.obj (σ.length + 1),.obj (σ.length + 2)]])[σ.length + 1]? = _:=getApp r1
 have s2:(σ₃++[AO.list [.obj (σ.length + 1),.obj (σ.length + 2)]])[σ.length + 2]? = _:=getApp p2
 generalize σ₃++[AO.list [.obj (σ.length + 1),.obj (σ.length + 2)]]=σ₄ at p3 q2 r2 s2
 have eq1:∀ {i:Nat} {m:List (List Nat)},σ₄[i]? = some (.list (m.map .str))→i≠σ.length→eqA σ₄ (.obj i) (.obj σ.length)=some (decide (m=l')):=λ {i m} hi hne=>by
  show (match σ₄[i]?,σ₄[σ.length]? with
   | some (.list a),some (.list b)=>if i=σ.length then Option.none else eqLists a b
   | zz,zy=>Option.none)=_
  refine rwg (hi ..) ?_
  refine rwg (q2 ..) ?_
  show (if i=σ.length then Option.none else eqLists (m.map .str) (l'.map .str))=_
  refine rwg (if_neg hne ..) ?_
  refine rwg (eqLists_str ..) rfl
 show (match σ₄[σ₃.length]? with | some (.list l)=>inLists σ₄ σ.length l | _=>Option.none)=_
 refine rwg (p3 ..) ?_
 show (match eqA σ₄ (.obj (σ.length + 1)) (.obj σ.length),(match eqA σ₄ (.obj (σ.length + 2)) (.obj σ.length),some false with
  | some p,some q=>some (p || q)
  | zz,zy=>Option.none) with
  | some p,some q=>some (p || q)
  | zz,zy=>Option.none)=_
 rw [eq1 (m:=[]) r2 (by lia),eq1 (m:=[w]) s2 (by lia)]
 show some (decide ([]=l') || (decide ([w]=l') || false))=_
 refine rwg (Bool.or_false ..) rfl
theorem two_eq {a b x y:List Nat}:decide ([a,b]=[x,y])=(decide (a=x) && decide (b=y)):=by
 rw [← Bool.decide_and]
 exact decide_eq_decide.mpr ⟨λ h=>by cases h;exact⟨rfl,rfl⟩,λ h=>by rw [h.1,h.2]⟩
theorem KC.no (C:KC P σ₀ j g vs is) (k:Kp NoP σ₀ σ):KC P σ j g vs is:=⟨k.2 _ _ (λ h=>h) C.l,C.X.no k,k.2 _ _ (λ h=>h) C.s,C.m⟩
theorem Rv.orSkip {m:PM Bool} {r:List (PM Bool)} {b:Bool} (h:m σ=some (.ok false,σ)) (x:Rv σ₀ (boolT .Or r) σ b):Rv σ₀ (boolT .Or (m :: r)) σ b:=Rv.run h x
theorem kr_caseEnd {i1 i2 i3:It} {r:List It} {fits:Bool} {σ₁:AH} (hf:10000≤fuel) (hl:vs.length=(It.key sCase :: i1 :: i2 :: i3 :: r).length) (C:KC P σ₀ j g vs (It.key sCase :: i1 :: i2 :: i3 :: r)) (k:Kp NoP σ₀ σ₁) (h3:fits=true→i3.isList=true):
  Rv σ₀ ((boolT .Or [((truthA (.bool fits))>>=λ b=>pure !b),(((((((subA (.obj j) (.int 3)))>>=λ v47=>(subA v47 (.int 0))))>>=λ v48=>(srcOf v48>>=λ src=>goN (λ x46=>(boolT .And [(((callF tb0 fuel (d + 3) 804 [x46]))>>=λ v49=>(cmpA .NotEq v49 (.str [119,97,121])))]>>=λ ok=>match ok with | true=>(pure [x46]) | false=>pure [])) src fuel 0>>=λ vs=>newL vs)))>>=λ v50=>(((newL []))>>=λ v51=>(cmpA .NotEq v50 v51)))])>>=λ tc=>match tc with
 | true=>(pure .none)
 | false=>((boolT .And [(((((subA (.obj j) (.int 3)))>>=λ v52=>(subA v52 (.int 0))))>>=λ v53=>(((newL []))>>=λ v54=>(cmpA .Eq v53 v54))),(cmpA .Eq (.int vs.length) (.int 4))])>>=λ tc=>match tc with | true=>(pure .none) | false=>(pure (.str [99,111,114,101])))) σ₁ (knO (gd (fits && (i3.parts.all It.isWay && !(!i3.isFull && decide ((It.key sCase :: i1 :: i2 :: i3 :: r).length=4)))) .core)):=by
 cases fits with
 | false=>exact Rv.run (v:=true) (σ₁:=σ₁) rfl (Rv.ret k)
 | true=>
  refine Rv.base k ?_
  replace C:=C.no k
  have k:=Kp.refl (P:=NoP) σ₁
  refine ex24 (C.prt (n:=3) k rfl (z:=3) rfl (h3 rfl)) λ j2 vs2 e h X m=>?_
  have ways:Rv σ₁ ((((subA (.obj j) (.int 3)))>>=λ v47=>(subA v47 (.int 0)))>>=(λ v48=>flt (λ x46=>((callF tb0 fuel (d + 3) 804 [x46]))>>=λ v49=>(cmpA .NotEq v49 (.str [119,97,121]))) fuel v48)>>=λ v50=>(((newL []))>>=λ v51=>(cmpA .NotEq v50 v51))) σ₁ (i3.parts.any λ it=>!it.isWay):=by
   refine Rv.runl e (rv_some hf (λ it=>!it.isWay) k h X.length m λ n v it' hv hi' σ' k'=>?_)
   refine ex12 (X.at hi') λ v' hv' x'=>?_
   rw [hv] at hv'
   cases hv'
   refine (rv_sort (d:=d + 1) (x'.no k') k').bind λ σ₁ k=>?_
   have:=rv_ne (a:=kn it') (b:=[119,97,121]) k
   rw [kn_way] at this
   exact this
  refine Rv.bind (Rv.orSkip (σ:=σ₁) rfl ways.one) λ σ₂ k2=>?_
  refine rwg (Bool.true_and ..) ?_
  refine rwg (((not_any _ _).symm) ..) ?_
  cases hw:(i3.parts.any λ it=>!it.isWay) with
  | true=>exact Rv.ret k2
  | false=>
   refine rwg (Bool.not_false ..) ?_
   refine rwg (Bool.true_and ..) ?_
   refine ex24 (C.prt (n:=3) k2 rfl (z:=3) rfl (h3 rfl)) λ j3 vs3 e3 h3 X3 m3=>?_
   have emp:Rv σ₁ ((((subA (.obj j) (.int 3)))>>=λ v52=>(subA v52 (.int 0)))>>=λ v53=>(((newL []))>>=λ v54=>(cmpA .Eq v53 v54))) σ₂ (!i3.isFull):=by
    have:=X3.length
    refine Rv.of (run_bind e3 ((run_empty h3).trans ?_)) (k2.to [.list []])
    rw [this];rfl
   refine (Rv.andT emp λ zz σ₄ k4=>(rv_lenI (n:=4) hl k4 rfl).one).bind λ σ₃ k3=>?_
   cases (!i3.isFull && decide ((It.key sCase :: i1 :: i2 :: i3 :: r).length=4)) with
   | true=>exact Rv.ret k3
   | false=>exact Rv.ret k3
theorem kr_case {r:List It} (hf:10000≤fuel) (hl:vs.length=(It.key sCase :: r).length) (C:KC P σ₀ j g vs (.key sCase :: r)) (k:Kp NoP σ₀ σ):KR σ₀ fuel d j g vs.length sCase σ (gd (kCase (.key sCase :: r)) .core):=by
 refine skip2 (l:=l2) (by decide) k rfl λ σ₁ k1=>skip1 k1 rfl (skip1 k1 rfl (skip2 (l:=l3) (by decide) k1 rfl λ σ₁ k1=>take1 k1 rfl ?_))
 have h45:=rv_in45 (n:=vs.length) k1
 have hs:=k1.2 _ _ (λ h=>h) C.s
 match r,hl,C with
 | [i1,i2,i3],hl,C=>
  have e:kCase [.key sCase,i1,i2,i3]=((i1.isCore && ((i2.isName && i3.isList) && true)) && (i3.parts.all It.isWay && !(!i3.isFull && decide ([It.key sCase,i1,i2,i3].length=4)))):=by
   show (true && ((i3.isList && i3.parts.all It.isWay) && ((false || i3.isFull) && (i1.isCore && i2.isName))))=((i1.isCore && ((i2.isName && i3.isList) && true)) && (i3.parts.all It.isWay && !(!i3.isFull && true)))
   generalize i3.isList=a
   generalize i3.parts.all It.isWay=b
   generalize i3.isFull=c
   generalize i1.isCore=e
   generalize i2.isName=f
   revert a b c e f
   decide
  refine rwg (e ..) ?_
  refine Rv.bind (v:=.bool (i1.isCore && ((i2.isName && i3.isList) && true))) ?_ λ σ₂ k2=>kr_caseEnd hf hl C k2 λ h=>by
   obtain⟨_,h⟩:=Bool.and_eq_true_iff.mp h
   obtain⟨h,_⟩:=Bool.and_eq_true_iff.mp h
   exact (Bool.and_eq_true_iff.mp h).2
  refine (Rv.andA (a:=true) (b:=i1.isCore && ((i2.isName && i3.isList) && true)) (h45.cst (by rw [hl];rfl)).toB λ zz σ₂ k2=>Rv.andA (C.core (n:=1) k2 rfl rfl) λ zz σ₃ k3=>Rv.andA ?_ λ zz σ₄ k4=>?_).cst (congrArg AV.bool (Bool.true_and _))
  ·have hs:=k3.2 _ _ (λ h=>h) C.s
   rw [map_knV] at hs
   have:=rv_slice (m:=[[110,97,109,101],[108,105,115,116]]) (l':=[kn i2,kn i3]) (lo:=.int 2) (hi:=.int 4) hs rfl (by decide) k3
   rw [two_eq,kn_name,kn_list] at this
   exact Rv.asc this
  ·have hs:=k4.2 _ _ (λ h=>h) C.s
   rw [map_knV] at hs
   exact Rv.asc ((rv_inEls (l':=[]) (lo:=.int 4) (hi:=.none) (w:=[101,108,115,101]) hs rfl k4).cst rfl)
 | [i1,i2,i3,i4],hl,C=>
  have e:kCase [.key sCase,i1,i2,i3,i4]=((i1.isCore && ((i2.isName && i3.isList) && i4.isEls)) && (i3.parts.all It.isWay && !(!i3.isFull && decide ([It.key sCase,i1,i2,i3,i4].length=4)))):=by
   show ((false || (true && i4.isEls)) && ((i3.isList && i3.parts.all It.isWay) && ((true || i3.isFull) && (i1.isCore && i2.isName))))=((i1.isCore && ((i2.isName && i3.isList) && i4.isEls)) && (i3.parts.all It.isWay && !(!i3.isFull && false)))
   generalize i3.isList=a
   generalize i3.parts.all It.isWay=b
   generalize i3.isFull=c
   generalize i1.isCore=e
   generalize i2.isName=f
   generalize i4.isEls=h
   revert a b c e f h
   decide
  refine rwg (e ..) ?_
  refine Rv.bind (v:=.bool (i1.isCore && ((i2.isName && i3.isList) && i4.isEls))) ?_ λ σ₂ k2=>kr_caseEnd hf hl C k2 λ h=>by
   obtain⟨_,h⟩:=Bool.and_eq_true_iff.mp h
   obtain⟨h,_⟩:=Bool.and_eq_true_iff.mp h
   exact (Bool.and_eq_true_iff.mp h).2
  refine (Rv.andA (a:=true) (b:=i1.isCore && ((i2.isName && i3.isList) && i4.isEls)) (h45.cst (by rw [hl];rfl)).toB λ zz σ₂ k2=>Rv.andA (C.core (n:=1) k2 rfl rfl) λ zz σ₃ k3=>Rv.andA ?_ λ zz σ₄ k4=>?_).cst (congrArg AV.bool (Bool.true_and _))
  ·have hs:=k3.2 _ _ (λ h=>h) C.s
   rw [map_knV] at hs
   have:=rv_slice (m:=[[110,97,109,101],[108,105,115,116]]) (l':=[kn i2,kn i3]) (lo:=.int 2) (hi:=.int 4) hs rfl (by decide) k3
   rw [two_eq,kn_name,kn_list] at this
   exact Rv.asc this
  ·have hs:=k4.2 _ _ (λ h=>h) C.s
   rw [map_knV] at hs
   have:=rv_inEls (l':=[kn i4]) (lo:=.int 4) (hi:=.none) (w:=[101,108,115,101]) hs rfl k4
   rw [show (decide ([]=[kn i4]) || decide ([[101,108,115,101]]=[kn i4]))=i4.isEls from (Bool.false_or _).trans ((decide_eq_decide.mpr ⟨λ h=>(List.cons.inj h).1.symm,λ h=>by rw [h]⟩).trans (kn_els i4))] at this
   exact Rv.asc this
 | [],hl,C=>
  exact Rv.bind (v:=.bool false) (Rv.andA (a:=false) (b:=true) (h45.cst (by rw [hl];rfl)).toB λ h=>nomatch h) λ σ₂ k2=>Rv.run (v:=true) (σ₁:=σ₂) rfl (Rv.ret k2)
 | [zz],hl,C=>
  exact Rv.bind (v:=.bool false) (Rv.andA (a:=false) (b:=true) (h45.cst (by rw [hl];rfl)).toB λ h=>nomatch h) λ σ₂ k2=>Rv.run (v:=true) (σ₁:=σ₂) rfl (Rv.ret k2)
 | [zz,zy],hl,C=>
  exact Rv.bind (v:=.bool false) (Rv.andA (a:=false) (b:=true) (h45.cst (by rw [hl];rfl)).toB λ h=>nomatch h) λ σ₂ k2=>Rv.run (v:=true) (σ₁:=σ₂) rfl (Rv.ret k2)
 | a :: b :: c :: e :: f :: r,hl,C=>
  have n4:decide (vs.length=4)=false:=decide_eq_false (by rw [hl];simp)
  have n5:decide (vs.length=5)=false:=decide_eq_false (by rw [hl];simp)
  rw [n4,n5] at h45
  have ek:kCase (.key sCase :: a :: b :: c :: e :: f :: r)=false:=by
   unfold kCase
   rw [← hl,n4,n5];rfl
  refine rwg (ek ..) ?_
  exact Rv.bind (v:=.bool false) (Rv.andA (a:=false) (b:=true) (h45.cst rfl).toB λ h=>nomatch h) λ σ₂ k2=>Rv.run (v:=true) (σ₁:=σ₂) rfl (Rv.ret k2)
end
section
variable {σ σ' σ₀:AH} {fuel d:Nat} {P:Nat→Prop} {j g:Nat} {vs:List AV} {is:List It}
noncomputable def fwBody (c:CC):AV→Lc→(Lc→PM AV)→PM AV:=(λ v4 lc2 kk3=>(((seqA [lk (kvSet lc2 (nm "item") v4) (nm "item")]>>=λ vs6=>(c 821 vs6)))>>=λ x7=>(((lk (kvSet (kvSet lc2 (nm "item") v4) (nm "wrong") x7) (nm "wrong"))>>=λ v8=>(cmpA .IsNot v8 .none))>>=λ tc=>match tc with
 | true=>lk (kvSet (kvSet lc2 (nm "item") v4) (nm "wrong") x7) (nm "wrong")
 | false=>(kk3 (kvSet (kvSet lc2 (nm "item") v4) (nm "wrong") x7)))))
noncomputable def fwKont (c:CC) (fuel:Nat):Lc→PM AV:=(λ lc2=>(((seqA [((lk lc2 (nm "thing"))>>=λ v9=>(subA v9 (.int 0)))]>>=λ vs10=>(c 814 vs10)))>>=λ x11=>(((lk (kvSet lc2 (nm "kind") x11) (nm "thing"))>>=λ v12=>(methA tb0 v12 (nm "append")>>=λ m13=>(seqA [lk (kvSet lc2 (nm "kind") x11) (nm "kind")]>>=λ vs14=>callM ⟨tb0,c,fuel⟩ m13 v12 vs14)))>>=λ zz=>(((lk (kvSet lc2 (nm "kind") x11) (nm "kind"))>>=λ v15=>(cmpA .Is v15 .none))>>=λ tc=>match tc with | true=>lk (kvSet lc2 (nm "kind") x11) (nm "thing") | false=>(pure .none)))))
theorem key_word {v:AV} {w:List Nat} (x:RepL P σ v (.key w)):v = .str w∧w∈keyWs:=by
 generalize hit:It.key w=it at x
 cases x with
 | @word s h=>
  unfold itW at hit
  by_cases hk:s∈keyWs
  ·rw [if_pos hk] at hit;cases hit;exact⟨rfl,hk⟩
  ·rw [if_neg hk] at hit
   cases hl:lookW intWords s with
   | none=>rw [hl] at hit;cases hit
   | some m=>rw [hl] at hit;cases hit
 | @list i j x y vs is zz a b h l X m k=>
  clear X l b a vs m h x y j
  subst hit
  exact (kd_key k).elim
theorem rv_kind (hf:10000≤fuel) (h:σ[j]? = some (.list vs)) (X:RepLs P σ vs is) (m:is.length≤9000):Rv σ (callF tb0 fuel (d + 4) 814 [.obj j]) σ (knO (kd is)):=by
 rw [den_814]
 have hl:=X.length
 refine Rs.bind (ok1:=true) (ok2:=true) (P1:=λ v σ'=>∃ g,v = .obj g∧σ'[g]? = some (.list (is.map knV))) ?_ λ zz v σ₁ k1 hv=>?_
 ·obtain⟨σ₁,e,k⟩:=(goN_sorts (fuel:=fuel) (d:=d + 1) h X m is.length 0 fuel σ (by lia) (by lia) (.refl _)).out
  exact .good rfl _ _ (run_bind (v:=.lst j) (run_bind (run_lsO h) rfl) (run_bind e (run_newL (by rw [List.length_map];show is.length≤1000000;lia)))) (k.to _) ⟨_,rfl,get_push _ _⟩
 obtain⟨g,rfl,hg⟩:=hv
 have C:KC P σ₁ j g vs is:=⟨k1.2 _ _ (λ h=>h) h,X.no k1,hg,m⟩
 refine Rs.base k1 ?_
 cases is with
 | nil=>
  have e0:vs=[]:=List.eq_nil_of_length_eq_zero hl
  subst e0
  exact Rv.run (run_or (a:=true) (b:=true) (run_empty C.l) λ h=>nomatch h) (Rv.ret (.app _ _))
 | cons it r=>
  have hfull:(newL []>>=λ v=>cmpA .Eq (.obj j) v) σ₁=some (.ok false,σ₁++[.list []]):=by
   have:=run_empty C.l
   rw [hl,show decide (0 < (it :: r).length)=true from decide_eq_true (Nat.succ_pos _)] at this
   exact this
  have ka:Kp NoP σ₁ (σ₁++[.list []]):=.app _ _
  have hk:((subA (.obj g) (.int 0))>>=λ v4=>cmpA .NotEq v4 (.str [107,101,121])) (σ₁++[.list []])=some (.ok (!it.isKey),σ₁++[.list []]):=by
   rw [← kn_key]
   exact run_bind (C.srt ka (n:=0) rfl rfl) (run_cmp rfl)
  refine Rv.run (run_or (b:=!it.isKey) hfull λ zz=>run_or1 hk) ?_
  refine rwg (Bool.false_or ..) ?_
  cases hkey:it.isKey with
  | false=>
   have:kd (it :: r)=some (.list (it :: r)):=by cases it<;>first | rfl | cases hkey
   refine rwg (this ..) ?_
   exact Rv.ret ka
  | true=>
   cases it with
   | key w=>
    refine ex12 (C.itm ka (n:=0) (z:=0) rfl rfl) λ v ev x=>?_
    have rr0:=(key_word x).1
    have hw:=(key_word x).2
    subst rr0
    refine Rv.run (v:=.tup [.str w,.int vs.length]) (σ₁:=σ₁++[.list []]) (run_tup2 (f:=λ zz=>pure .none) ev (run_len (ka.2 _ _ (λ h=>h) C.l))) ?_
    show KR σ₁ fuel d j g vs.length w (σ₁++[.list []]) (kd (.key w :: r))
    clear hk hfull X h k1 hkey hg m x ev
    revert C hl
    revert hw
    revert w
    refine no_implicit_lambda% (keyWs_all ?_ ?_ ?_ ?_ ?_ ?_ ?_ ?_ ?_ ?_ ?_ ?_ ?_)
    ·exact λ hl C=>kr_int C ka
    ·exact λ hl C=>kr_char C ka
    ·exact λ hl C=>kr_app hf hl C ka
    ·exact λ hl C=>kr_lam hf hl C ka
    ·exact λ hl C=>kr_let0 hf (.inl rfl) hl C ka
    ·exact λ hl C=>kr_let0 hf (.inr rfl) hl C ka
    ·exact λ hl C=>kr_case hf hl C ka
    ·exact λ hl C=>kr_of hf hl C ka
    ·exact λ hl C=>kr_is hl C ka
    ·exact λ hl C=>kr_else hl C ka
    ·exact λ hl C=>kr_con0 hf (.inl rfl) hl C ka
    ·exact λ hl C=>kr_con0 hf (.inr rfl) hl C ka
    ·exact λ hl C=>kr_prog hf hl C ka
   | _=>cases hkey
theorem RepAs.len {α:Type} {hd:α→List AV} {P:Nat→Prop} {ts:List (Tr α)} {vs:List AV} (r:RepAs hd σ P vs ts):vs.length=ts.length:=r.length
inductive FwR (fuel d:Nat) (t:Tr PP) (σ:AH) (P:Nat→Prop) (v:AV):Prop
 | wr (ab:PP) (i j:Nat) (σ':AH) (h1:fw t=some ab) (h2:callF tb0 fuel d 821 [v] σ=some (.ok (.obj i),σ')) (h3:σ'[i]? = some (.list [.obj j,pT ab.1,pT ab.2,.none])) (k:Kp P σ σ')
 | ok (it:It) (σ':AH) (h1:fw t=none) (h2:itO (er t)=some it) (h3:callF tb0 fuel d 821 [v] σ=some (.ok .none,σ')) (h4:RepL P σ' v it) (k:Kp P σ σ')
inductive FwL (fuel d:Nat) (ts:List (Tr PP)) (σ:AH) (P:Nat→Prop) (i j n idx:Nat) (lc:Lc) (rest:List AV):Prop
 | wr (ab:PP) (ii jj:Nat) (σ':AH) (h0:fws ts=some ab) (h1:forN (fwBody (callF tb0 fuel d)) (fwKont (callF tb0 fuel d) fuel) (.lst j) n idx lc σ=some (.ok (.obj ii),σ')) (h2:σ'[ii]? = some (.list [.obj jj,pT ab.1,pT ab.2,.none])) (h3:Kp P σ σ')
 | ok (σ':AH) (lc':Lc) (is:List It) (h0:fws ts=none) (h1:itsO (ers ts)=some is) (h2:forN (fwBody (callF tb0 fuel d)) (fwKont (callF tb0 fuel d) fuel) (.lst j) n idx lc σ=fwKont (callF tb0 fuel d) fuel lc' σ') (h3:kvGet lc' (nm "thing")=some (.obj i)) (h4:RepLs P σ' rest is) (h5:Kp P σ σ')
mutual
theorem fw_run (hf:100000≤fuel):∀ (t:Tr PP) {d:Nat} {σ:AH} {P:Nat→Prop} {v:AV},hg (er t) + 5≤d→wok allWs (er t)→tkn t≤9000→RepA hdP σ P v t →
  FwR fuel d t σ P v
 | .w g s,d,σ,P,v,hd,hw,hn,r=>by
  obtain⟨d,rfl⟩:=Nat.exists_eq_add_of_le' (show 1≤d by lia)
  simp only [RepA] at r
  subst r
  dsimp only [er,wok] at hw
  refine .ok (itW s) σ (by simp only [fw]) (by dsimp only [er,itO]) ?_ (.word hw) (.refl _)
  refine rwg (den_821 ..) rfl
 | .l g ab ts,d,σ,P,v,hd,hw,hn,r=>by
  obtain⟨d,rfl⟩:=Nat.exists_eq_add_of_le' (show 1≤d by lia)
  simp only [RepA] at r
  obtain⟨i,j,vs,rfl,pi,pj,ij,ei,ej,r⟩:=r
  simp only [er,wok] at hw
  simp only [er,Mine.hg] at hd
  simp only [tkn] at hn
  have hi:isOf tb0 σ (.obj i) (.bi .str)=some false:=by
   show (match σ[i]? with | some (.list zz)=>some false | _=>Option.none)=_
   rw [ei]
  have lr:=r.length
  have ltk:ts.length≤tkns ts:=by
   have:∀ ts:List (Tr PP),ts.length≤tkns ts:=by
    intro ts
    induction ts with
    | nil=>exact Nat.le_refl _
    | cons t r ih=>
     have:1≤tkn t:=by cases t<;>simp only [tkn]<;>lia
     simp only [List.length_cons,tkns];lia
   exact this ts
  have front:∀ x,forN (fwBody (callF tb0 fuel d)) (fwKont (callF tb0 fuel d) fuel) (.lst j) fuel 0 [(nm "thing",.obj i)] σ=x→callF tb0 fuel (d + 1) 821 [.obj i] σ=x:=λ x hx=>by
   rw [den_821]
   exact run_bind (run_tt (b:=false) (run_inst hi)) (run_bind (run_sub ei (k:=0) rfl rfl) (run_bind (v:=Src.lst j) (σ₁:=σ) (run_bind (run_lsO ej) rfl) hx))
  have ei':σ[i]? = some (.list (.obj j :: hdP ab)):=ei
  rcases fw_list hf ts (i:=i) (j:=j) (σ:=σ) (P:=λ x=>P x∧x≠i∧x≠j) (rest:=vs) (vsAll:=vs) (idx:=0) (n:=fuel) (lc:=[(nm "thing",.obj i)]) (show hgs (ers ts) + 5≤d by lia) hw (by lia) r ej rfl (λ h=>h.2.2 rfl) (by lia) (if_pos rfl) with ⟨ab',ii,jj,σ',h1,h2,h3,k⟩ | ⟨σ',lc',is,h1,h2,h3,h4,h5,k⟩
  ·refine .wr ab' ii jj σ' (by simp only [fw,h1]) (front _ h2) h3 (k.mono λ x zz h=>h.1)
  ·have lis:=its_len h2
   have ei2:σ'[i]? = some (.list (.obj j :: hdP ab)):=k.2 _ _ (λ h=>h.2.1 rfl) ei
   have ej2:σ'[j]? = some (.list vs):=k.2 _ _ (λ h=>h.2.2 rfl) ej
   obtain⟨d,rfl⟩:=Nat.exists_eq_add_of_le' (show 4≤d by lia)
   obtain⟨σ₂,e2,k2⟩:=(rv_kind (fuel:=fuel) (d:=d) (by lia) ej2 h5 (by lia)).out
   have ei3:=k2.2 _ _ (λ h=>h) ei2
   have ej3:=k2.2 _ _ (λ h=>h) ej2
   have gk:∀ {u:AV},kvGet (kvSet lc' (nm "kind") u) (nm "thing")=some (.obj i):=λ {u}=>(kvGet_ne u (by decide +kernel) lc').trans h4
   have gkk:∀ {u:AV},kvGet (kvSet lc' (nm "kind") u) (nm "kind")=some u:=λ {u}=>kvGet_same _ u lc'
   have K:Kp P σ (σ₂.set i (AO.list ((AV.obj j :: hdP ab)++[knO (kd is)]))):=((k.mono λ x zz h=>h.1).trans k2.no).trans (.set _ pi)
   have run:∀ {b:Bool} {x:Option (Except AV AV×AH)},cmpV (σ₂.set i (AO.list ((AV.obj j :: hdP ab)++[knO (kd is)]))) .Is (knO (kd is)) .none=some b→(match b with | true=>lk (kvSet lc' (nm "kind") (knO (kd is))) (nm "thing") | false=>(pure .none)) (σ₂.set i (AO.list ((AV.obj j :: hdP ab)++[knO (kd is)])))=x→callF tb0 fuel (d + 4 + 1) 821 [.obj i] σ=x:=λ hb hx=>front _ (h3.trans (by
    refine run_bind (run_seq (run_bind (run_lk h4) (run_sub ei2 (k:=0) rfl rfl)) (run_nil e2)) (run_bind (v:=.none) (σ₁:=σ₂.set i (AO.list ((AV.obj j :: hdP ab)++[knO (kd is)]))) (run_bind (run_lk gk) (run_append (X:=⟨tb0,callF tb0 fuel (d + 4),fuel⟩) ei3 (run_seq (run_lk gkk) (run_nil (run_appendM ei3 (Nat.le_of_ble_eq_true rfl)))))) (run_bind (run_bind (run_lk gkk) (run_cmp hb)) ?_))
    exact hx))
   cases hk:kd is with
   | none=>
    rw [hk] at run K
    refine .wr ab i j _ (by simp only [fw,h1,h2,Option.bind_some,hk]) (run (b:=true) rfl (run_lk gk)) ((get_set_self ei3).trans rfl) K
   | some it=>
    rw [hk] at run K
    refine .ok it _ (by simp only [fw,h1,h2,Option.bind_some,hk]) (by simp only [er,itO,h2,Option.bind_some,hk]) (run (b:=false) rfl rfl) ?_ K
    have X:RepLs P (σ₂.set i (AO.list ((AV.obj j :: hdP ab)++[knO (some it)]))) vs is:=(h5.no k2).move (λ x h=>h.1) λ x o h e=>by rw [List.getElem?_set_ne (λ z=>h.2.1 z.symm)];exact e
    exact .list (x:=pT ab.1) (y:=pT ab.2) pi pj ((get_set_self ei3).trans rfl) (by rw [List.getElem?_set_ne ij];exact ej3) X (by lia) hk
theorem fw_list (hf:100000≤fuel):∀ (ts:List (Tr PP)) {d:Nat} {σ:AH} {P:Nat→Prop} {rest vsAll:List AV} {i j idx n:Nat} {lc:Lc},hgs (ers ts) + 5≤d→woks allWs (ers ts)→tkns ts≤9000→RepAs hdP σ P rest ts→σ[j]? = some (.list vsAll)→vsAll.drop idx=rest→¬ P j→ts.length < n→kvGet lc (nm "thing")=some (.obj i) →
  FwL fuel d ts σ P i j n idx lc rest
 | [],d,σ,P,rest,vsAll,i,j,idx,n,lc,hd,hw,hn,r,hj,hr,hnP,hl,hlc=>by
  obtain⟨n,rfl⟩:=Nat.exists_eq_add_of_le' (show 1≤n by lia)
  simp only [RepAs] at r
  subst r
  refine .ok σ lc ([]) (by simp only [fws]) (by simp only [ers,itsO]) (forN_end ?_) hlc (.nil) (.refl _)
  rw [nextA_lst hj,List.getElem?_eq_none (by simpa using hr)]
 | t :: ts,d,σ,P,rest,vsAll,i,j,idx,n,lc,hd,hw,hn,r,hj,hr,hnP,hl,hlc=>by
  obtain⟨n,rfl⟩:=Nat.exists_eq_add_of_le' (show 1≤n by lia)
  simp only [RepAs] at r
  obtain⟨P1,v,r',rfl,rt,rr⟩:=r
  simp only [ers,woks] at hw
  simp only [ers,hgs] at hd
  simp only [tkns] at hn
  have hv:vsAll[idx]? = some v:=by
   have:=congrArg (λ l=>l[0]?) hr
   simpa using this
  have hr':vsAll.drop (idx + 1)=r':=by
   have:=congrArg List.tail hr
   simpa using this
  have gi:=kvGet_same (nm "item") v lc
  have gt:kvGet (kvSet lc (nm "item") v) (nm "thing")=some (.obj i):=(kvGet_ne v (by decide +kernel) lc).trans hlc
  have gw:∀ {u:AV},kvGet (kvSet (kvSet lc (nm "item") v) (nm "wrong") u) (nm "wrong")=some u:=λ {u}=>kvGet_same _ u _
  have gt2:∀ {u:AV},kvGet (kvSet (kvSet lc (nm "item") v) (nm "wrong") u) (nm "thing")=some (.obj i):=λ {u}=>(kvGet_ne u (by decide +kernel) _).trans gt
  have step:∀ {u:AV} {σ₁:AH} {b:Bool} {x:Option (Except AV AV×AH)},callF tb0 fuel d 821 [v] σ=some (.ok u,σ₁)→cmpV σ₁ .IsNot u .none=some b→(match b with | true=>lk (kvSet (kvSet lc (nm "item") v) (nm "wrong") u) (nm "wrong") | false=>forN (fwBody (callF tb0 fuel d)) (fwKont (callF tb0 fuel d) fuel) (.lst j) n (idx + 1) (kvSet (kvSet lc (nm "item") v) (nm "wrong") u)) σ₁=x→forN (fwBody (callF tb0 fuel d)) (fwKont (callF tb0 fuel d) fuel) (.lst j) (n + 1) idx lc σ=x:=λ e hb hx=>by
   refine (forN_step (v:=v) (by rw [nextA_lst hj,hv])).trans (run_bind (run_seq (run_lk gi) (run_nil e)) (run_bind (run_bind (run_lk gw) (run_cmp hb)) ?_))
   exact hx
  rcases fw_run hf t (d:=d) (σ:=σ) (P:=λ x=>P x∧P1 x) (by lia) hw.1 (by lia) rt with ⟨ab,ii,jj,σ₁,h1,h2,h3,k⟩ | ⟨it,σ₁,h1,h2,h3,h4,k⟩
  ·exact .wr ab ii jj σ₁ (by simp only [fws,h1]) (step (b:=true) h2 rfl (run_lk gw)) h3 (k.mono λ x zz h=>h.1)
  ·have rr1:RepAs hdP σ₁ (λ x=>P x∧¬ P1 x) r' ts:=rr.keep k λ x h h'=>h.2 h'.2
   rcases fw_list hf ts (d:=d) (σ:=σ₁) (P:=λ x=>P x∧¬ P1 x) (i:=i) (idx:=idx + 1) (n:=n) (lc:=kvSet (kvSet lc (nm "item") v) (nm "wrong") .none) (by lia) hw.2 (by lia) rr1 (k.2 _ _ (λ h=>hnP h.1) hj) hr' (λ h=>hnP h.1) (by simp at hl;lia) gt2 with ⟨ab,ii,jj,σ₂,q1,q2,q3,k2⟩ | ⟨σ₂,lc',is,q1,q2,q3,q4,q5,k2⟩
   ·exact .wr ab ii jj σ₂ (by simp only [fws,h1,q1]) (step (b:=false) h3 rfl q2) q3 ((k.mono λ x zz h=>h.1).trans (k2.mono λ x zz h=>h.1))
   ·refine .ok σ₂ lc' (it :: is) (by simp only [fws,h1,q1]) (by simp only [ers,itsO,h2,q2,Option.bind_some,Option.map_some]) (step (b:=false) h3 rfl q3) q4 (.cons (h4.move (λ x h=>h.1) λ x o h e=>k2.2 _ _ (λ z=>z.2 h.2) e) (q5.move (λ x h=>h.1) λ x o zz e=>e)) ((k.mono λ x zz h=>h.1).trans (k2.mono λ x zz h=>h.1))
end
end
section
variable {σ σ' σ₀:AH} {fuel d st:Nat} {P:Nat→Prop} {T:List Nat}
noncomputable def lawRest (c:CC) (x3 x4:AV):PM AV:=(((seqA [(subA x4 (.str [116,101,120,116]))]>>=λ vs5=>(c 828 vs5)))>>=λ x6=>(((c 821 [x3]))>>=λ x7=>((cmpA .IsNot x7 .none)>>=λ tc=>match tc with
 | true=>((boolT .Or [(cmpA .Is x6 .none),((((subA x7 (.int 1)))>>=λ v8=>(chainA v8 [.LtE,.LtE] [(callB tb0 .tuple [x6]),(subA x7 (.int 2))]))>>=λ b=>pure !b)])>>=λ tc=>match tc with
 | true=>(pure (.bool false))
 | false=>((cmpA .Is x7 .none)>>=λ tc=>match tc with
 | true=>((((seqA [(seqA [(((subA x4 (.str [116,101,120,116])))>>=λ v9=>(binA .Add v9 (.str [41])))]>>=λ vs10=>(c 828 vs10))]>>=λ vs11=>(callB tb0 .tuple vs11)))>>=λ v12=>(((seqA [(subA x4 (.str [114,111,119])),(subA x4 (.str [99,111,108,117,109,110]))]>>=λ vs13=>(if vs13.length≤maxLen then pure (.tup vs13) else PM.fail)))>>=λ v14=>(cmpA .NotEq v12 v14)))>>=λ tc=>match tc with
 | true=>(pure (.bool false))
 | false=>((boolT .Or [(((seqA [(seqA [(((subA x4 (.str [116,101,120,116])))>>=λ v15=>(binA .Add (.str [40,32]) v15))]>>=λ vs16=>(c 828 vs16))]>>=λ vs17=>(callB tb0 .tuple vs17)))>>=λ v18=>(cmpA .NotEq v18 (.tup [(.int 1),(.int 1)]))),(((seqA [(seqA [(((subA x4 (.str [116,101,120,116])))>>=λ v19=>(binA .Add (.str [40,32,40,32]) v19))]>>=λ vs20=>(c 828 vs20))]>>=λ vs21=>(callB tb0 .tuple vs21)))>>=λ v22=>(cmpA .NotEq v22 (.tup [(.int 1),(.int 3)])))])>>=λ tc=>match tc with
 | true=>(pure (.bool false))
 | false=>((boolT .Or [(((c 828 [(.str [120])]))>>=λ v23=>(cmpA .IsNot v23 .none)),(((c 828 [(.str [124,108,101,116,124])]))>>=λ v24=>(cmpA .IsNot v24 .none)),(((c 828 [(.str [108,101,116])]))>>=λ v25=>(cmpA .Is v25 .none))])>>=λ tc=>match tc with
 | true=>(pure (.bool false))
 | false=>boolA .And [(((seqA [(((subA x4 (.str [116,101,120,116])))>>=λ v26=>(binA .Add v26 (.str [32,120])))]>>=λ vs27=>(c 828 vs27)))>>=λ v28=>((cmpA .IsNot v28 .none)>>=λ b=>pure (.bool b))),(((c 828 [(.str [])]))>>=λ v29=>((cmpA .IsNot v29 .none)>>=λ b=>pure (.bool b)))])))
 | false=>((boolT .Or [(((c 828 [(.str [120])]))>>=λ v30=>(cmpA .IsNot v30 .none)),(((c 828 [(.str [124,108,101,116,124])]))>>=λ v31=>(cmpA .IsNot v31 .none)),(((c 828 [(.str [108,101,116])]))>>=λ v32=>(cmpA .Is v32 .none))])>>=λ tc=>match tc with
 | true=>(pure (.bool false))
 | false=>boolA .And [(((seqA [(((subA x4 (.str [116,101,120,116])))>>=λ v33=>(binA .Add v33 (.str [32,120])))]>>=λ vs34=>(c 828 vs34)))>>=λ v35=>((cmpA .IsNot v35 .none)>>=λ b=>pure (.bool b))),(((c 828 [(.str [])]))>>=λ v36=>((cmpA .IsNot v36 .none)>>=λ b=>pure (.bool b)))])))
 | false=>(((((cmpA .IsNot x6 .none)>>=λ b=>pure (.bool b)))>>=λ v37=>(((((seqA [(c 804 [x3])]>>=λ vs38=>(c 790 vs38)))>>=λ v39=>(truthA v39>>=λ b=>pure (.bool !b))))>>=λ v40=>(cmpA .NotEq v37 v40)))>>=λ tc=>match tc with
 | true=>(pure (.bool false))
 | false=>((cmpA .Is x7 .none)>>=λ tc=>match tc with
 | true=>((((seqA [(seqA [(((subA x4 (.str [116,101,120,116])))>>=λ v41=>(binA .Add v41 (.str [41])))]>>=λ vs42=>(c 828 vs42))]>>=λ vs43=>(callB tb0 .tuple vs43)))>>=λ v44=>(((seqA [(subA x4 (.str [114,111,119])),(subA x4 (.str [99,111,108,117,109,110]))]>>=λ vs45=>(if vs45.length≤maxLen then pure (.tup vs45) else PM.fail)))>>=λ v46=>(cmpA .NotEq v44 v46)))>>=λ tc=>match tc with
 | true=>(pure (.bool false))
 | false=>((boolT .Or [(((seqA [(seqA [(((subA x4 (.str [116,101,120,116])))>>=λ v47=>(binA .Add (.str [40,32]) v47))]>>=λ vs48=>(c 828 vs48))]>>=λ vs49=>(callB tb0 .tuple vs49)))>>=λ v50=>(cmpA .NotEq v50 (.tup [(.int 1),(.int 1)]))),(((seqA [(seqA [(((subA x4 (.str [116,101,120,116])))>>=λ v51=>(binA .Add (.str [40,32,40,32]) v51))]>>=λ vs52=>(c 828 vs52))]>>=λ vs53=>(callB tb0 .tuple vs53)))>>=λ v54=>(cmpA .NotEq v54 (.tup [(.int 1),(.int 3)])))])>>=λ tc=>match tc with
 | true=>(pure (.bool false))
 | false=>((boolT .Or [(((c 828 [(.str [120])]))>>=λ v55=>(cmpA .IsNot v55 .none)),(((c 828 [(.str [124,108,101,116,124])]))>>=λ v56=>(cmpA .IsNot v56 .none)),(((c 828 [(.str [108,101,116])]))>>=λ v57=>(cmpA .Is v57 .none))])>>=λ tc=>match tc with
 | true=>(pure (.bool false))
 | false=>boolA .And [(((seqA [(((subA x4 (.str [116,101,120,116])))>>=λ v58=>(binA .Add v58 (.str [32,120])))]>>=λ vs59=>(c 828 vs59)))>>=λ v60=>((cmpA .IsNot v60 .none)>>=λ b=>pure (.bool b))),(((c 828 [(.str [])]))>>=λ v61=>((cmpA .IsNot v61 .none)>>=λ b=>pure (.bool b)))])))
 | false=>((boolT .Or [(((c 828 [(.str [120])]))>>=λ v62=>(cmpA .IsNot v62 .none)),(((c 828 [(.str [124,108,101,116,124])]))>>=λ v63=>(cmpA .IsNot v63 .none)),(((c 828 [(.str [108,101,116])]))>>=λ v64=>(cmpA .Is v64 .none))])>>=λ tc=>match tc with
 | true=>(pure (.bool false))
 | false=>boolA .And [(((seqA [(((subA x4 (.str [116,101,120,116])))>>=λ v65=>(binA .Add v65 (.str [32,120])))]>>=λ vs66=>(c 828 vs66)))>>=λ v67=>((cmpA .IsNot v67 .none)>>=λ b=>pure (.bool b))),(((c 828 [(.str [])]))>>=λ v68=>((cmpA .IsNot v68 .none)>>=λ b=>pure (.bool b)))]))))))
noncomputable def lawEnd (c:CC) (x4:AV):PM AV:=((boolT .Or [(((c 828 [(.str [120])]))>>=λ v62=>(cmpA .IsNot v62 .none)),(((c 828 [(.str [124,108,101,116,124])]))>>=λ v63=>(cmpA .IsNot v63 .none)),(((c 828 [(.str [108,101,116])]))>>=λ v64=>(cmpA .Is v64 .none))])>>=λ tc=>match tc with
 | true=>(pure (.bool false))
 | false=>boolA .And [(((seqA [(((subA x4 (.str [116,101,120,116])))>>=λ v65=>(binA .Add v65 (.str [32,120])))]>>=λ vs66=>(c 828 vs66)))>>=λ v67=>((cmpA .IsNot v67 .none)>>=λ b=>pure (.bool b))),(((c 828 [(.str [])]))>>=λ v68=>((cmpA .IsNot v68 .none)>>=λ b=>pure (.bool b)))])
theorem st_no {σ':AH} (h:St st T σ) (k:Kp NoP σ σ'):St st T σ':=k.2 _ _ (λ h=>h) h
theorem run_subD {fs:List (Str×AV)} {w:List Nat} {v:AV} (h:σ[st]? = some (.dict fs)) (hv:kvGet fs ⟨w.toArray⟩=some v):subA (.obj st) (.str w) σ=some (.ok v,σ):=by
 refine run_bind (run_getO h) ?_
 show PM.ofOpt (kvGet fs ⟨w.toArray⟩) σ=_
 rw [hv];rfl
theorem st_text (h:St st T σ):subA (.obj st) (.str [116,101,120,116]) σ=some (.ok (.str T),σ):=run_subD h (by kernel_rfl)
theorem st_row (h:St st T σ):subA (.obj st) (.str [114,111,119]) σ=some (.ok (.int (ps T).1),σ):=run_subD h (by kernel_rfl)
theorem st_col (h:St st T σ):subA (.obj st) (.str [99,111,108,117,109,110]) σ=some (.ok (.int (ps T).2),σ):=run_subD h (by kernel_rfl)
theorem run_cat {a b:List Nat} (h:a.length + b.length≤1000000):binA .Add (.str a) (.str b) σ=some (.ok (.str (a++b)),σ):=by
 show (if a.length + b.length≤maxLen then pure (.str (a++b)) else PM.fail:PM AV) σ=_
 rw [if_pos (show a.length + b.length≤maxLen from h)];rfl
theorem Rf.out {d:Nat} {r:AV} (x:Rf fuel d T σ r):∃ σ',callF tb0 fuel (d + 10) 828 [.str T] σ=some (.ok r,σ')∧Kp NoP σ σ':=by
 obtain⟨e,k⟩:=x
 exact⟨_,e,k⟩
theorem law_end {t:Tr PP} (hf:100000≤fuel) (H:Wt t) (hs:St st (tx t) σ):∃ σ',lawEnd (callF tb0 fuel (d + 10)) (.obj st) σ=some (.ok (.bool true),σ'):=by
 have hl:=H.l
 refine ex12 ((rf_x (d:=d) hf σ).out) λ σ₁ e1 k1=>?_
 refine ex12 ((rf_qlet (d:=d) hf σ₁).out) λ σ₂ e2 k2=>?_
 obtain⟨q3,x3⟩:=rf_let (d:=d) hf σ₂
 refine ex12 (x3.out) λ σ₃ e3 k3=>?_
 have s3:=st_no hs ((k1.trans k2).trans k3)
 obtain⟨q4,x4⟩:=rf_more (d:=d) hf H σ₃
 refine ex12 (x4.out) λ σ₄ e4 k4=>?_
 obtain⟨q5,x5⟩:=rf_none (d:=d) hf σ₄
 refine ex12 (x5.out) λ σ₅ e5 k5=>?_
 refine⟨σ₅,run_bind (v:=false) (σ₁:=σ₃) ?_ ?_⟩
 ·refine run_bind (run_bind e1 (run_cmp (r:=false) rfl)) (run_bind (run_bind e2 (run_cmp (r:=false) rfl)) (run_bind (run_bind e3 (run_cmp (r:=false) rfl)) rfl))
 ·refine run_bind (σ₁:=σ₄) (run_bind (run_seq (run_bind (st_text s3) (run_cat (by show (tx t).length + 2≤1000000;lia))) (run_nil e4)) (run_bind (run_cmp (r:=true) rfl) rfl)) (run_bind (v:=true) (σ₁:=σ₄) rfl ?_)
  exact run_bind e5 (run_bind (run_cmp (r:=true) rfl) rfl)
theorem run_le {a b:Pos} (h:leP a b):cmpV σ .LtE (pT a) (pT b)=some true:=leTup_pT h
theorem law_bad {t:Tr PP} {v:AV} {a b:Pos} (hf:100000≤fuel) (H:Wt t) (hw:wp (1,1) t) (hd:hg (er t) + 5≤d + 10) (r:RepA hdP σ P v t) (hP:¬ P st) (hs:St st (tx t) σ) (h:fw t=some (a,b)):∃ σ',lawRest (callF tb0 fuel (d + 10)) v (.obj st) σ=some (.ok (.bool true),σ'):=by
 have ht:=tkn_wt t
 have hn:=H.n
 refine ex13 (rf_bad (d:=d) hf H nil_start (Nat.zero_le _) ((fwP_eq hw).trans h) σ) λ q x1 l1 l2=>?_
 rw [List.append_nil] at x1
 refine ex12 (x1.out) λ σ₁ e1 k1=>?_
 rcases fw_run hf t (d:=d + 10) hd H.w (by lia) (r.keep k1 λ x zz h=>h) with ⟨ab,i,j,σ₂,h1,h2,h3,k2⟩ | ⟨it,σ₂,h1,_⟩
 ·rw [h] at h1
  cases h1
  obtain⟨σ₃,e3⟩:=law_end (d:=d) hf H (k2.2 _ _ hP (st_no hs k1))
  refine⟨σ₃,run_bind (run_seq (st_text hs) (run_nil e1)) (run_bind h2 (run_bind (run_cmp (r:=true) rfl) (run_bind (v:=false) (σ₁:=σ₂) ?_ (run_bind (run_cmp (r:=false) rfl) e3))))⟩
  refine run_bind (run_cmp (r:=false) rfl) (run_bind (run_not (b:=true) (run_bind (run_sub h3 (k:=1) rfl rfl) (run_chain2 (v:=pT q) (w:=pT b) rfl (run_le l1) (run_sub h3 (k:=2) rfl rfl) (run_le l2)))) rfl)
 ·rw [h] at h1;cases h1
theorem eq_pT {p:Pos}:cmpV σ .NotEq (pT p) (pT p)=some false:=by
 show ((match some (((p.1:Nat):Int) == p.1),(match some (((p.2:Nat):Int) == p.2),some true with
  | some x,some y=>some (x && y)
  | zz,zy=>Option.none) with
  | some x,some y=>some (x && y)
  | zz,zy=>Option.none:Option Bool)).map (!·)=_
 rw [beq_self_eq_true,beq_self_eq_true];rfl
theorem law_good {t:Tr PP} {v:AV} {it:It} (hf:100000≤fuel) (H:Wt t) (hd:hg (er t) + 5≤d + 10) (r:RepA hdP σ P v t) (hP:¬ P st) (hs:St st (tx t) σ) (h:itO (er t)=some it) (hfw:fw t=none):∃ σ',lawRest (callF tb0 fuel (d + 10)) v (.obj st) σ=some (.ok (.bool true),σ'):=by
 have ht:=tkn_wt t
 have hn:=H.n
 have hl:=H.l
 obtain⟨r1,r2⟩:=rf_right (d:=d) hf H h σ
 have x6:∃ u,Rf fuel d (tx t) σ u∧∀ σ:AH,cmpV σ .IsNot u .none=some (!it.isCore):=by
  cases hc:it.isCore with
  | true=>exact⟨.none,r1 hc,λ zz=>rfl⟩
  | false=>obtain⟨q,hq⟩:=r2 hc;exact⟨pT q,hq,λ zz=>rfl⟩
 refine ex12 (x6) λ u x1 hu=>?_
 refine ex12 (x1.out) λ σ₁ e1 k1=>?_
 rcases fw_run hf t (d:=d + 10) hd H.w (by lia) (r.keep k1 λ x zz h=>h) with ⟨ab,i,j,σ₂,h1,_⟩ | ⟨it',σ₂,h1,h2,h3,h4,k2⟩
 ·rw [hfw] at h1;cases h1
 ·rw [h] at h2
  cases h2
  have s2:St st (tx t) σ₂:=k2.2 _ _ hP (st_no hs k1)
  refine ex12 ((rv_sort (fuel:=fuel) (d:=d + 8) h4 (.refl σ₂)).out) λ σ₃ e3 k3=>?_
  refine ex12 ((rv_core (fuel:=fuel) (d:=d + 9) it (.refl σ₃)).out) λ σ₄ e4 k4=>?_
  have s4:=st_no s2 (k3.trans k4)
  refine ex12 ((rf_close (d:=d) hf H h σ₄).out) λ σ₅ e5 k5=>?_
  have s5:=st_no s4 k5
  refine ex12 ((rf_in1 (d:=d) hf H h σ₅).out) λ σ₆ e6 k6=>?_
  have s6:=st_no s5 k6
  refine ex12 ((rf_in2 (d:=d) hf H h σ₆).out) λ σ₇ e7 k7=>?_
  have s7:=st_no s6 k7
  obtain⟨σ₈,e8⟩:=law_end (d:=d) hf H s7
  refine⟨σ₈,run_bind (run_seq (st_text hs) (run_nil e1)) (run_bind h3 (run_bind (run_cmp (r:=false) rfl) (run_bind (v:=false) (σ₁:=σ₄) ?_ (run_bind (run_cmp (r:=true) rfl) (run_bind (v:=false) (σ₁:=σ₅) ?_ (run_bind (v:=false) (σ₁:=σ₇) ?_ e8))))))⟩
  ·refine run_bind (run_bind (run_cmp (hu σ₂)) rfl) (run_bind (v:=.bool (!it.isCore)) (σ₁:=σ₄) (run_bind (run_seq e3 (run_nil e4)) rfl) (run_cmp ?_))
   show (some ((!it.isCore) == (!it.isCore)):Option Bool).map (!·)=_
   rw [beq_self_eq_true];rfl
  ·refine run_bind (run_seq (run_seq (run_bind (st_text s4) (run_cat (by show (tx t).length + 1≤1000000;lia))) (run_nil e5)) (run_nil rfl)) (run_bind (v:=pT (ps (tx t))) (σ₁:=σ₅) (run_seq (st_row s5) (run_seq (st_col s5) rfl)) (run_cmp eq_pT))
  ·refine run_bind (v:=false) (σ₁:=σ₆) (run_bind (run_seq (run_seq (run_bind (st_text s5) (run_cat (by show 2 + (tx t).length≤1000000;lia))) (run_nil e6)) (run_nil rfl)) (run_cmp (eq_pT (p:=(1,1))))) ?_
   exact run_bind (v:=false) (σ₁:=σ₇) (run_bind (run_seq (run_seq (run_bind (st_text s6) (run_cat (by show 4 + (tx t).length≤1000000;lia))) (run_nil e7)) (run_nil rfl)) (run_cmp (eq_pT (p:=(1,3))))) rfl
end
section
variable {σ σ' σ₀:AH} {fuel d st:Nat}
theorem run_mulB {a b:Int} (h:smallI b=true):binA .Mult (.int a) (.int b) σ=some (.ok (.int (a * b)),σ):=by
 show (if (smallI a || smallI b)=true then pure (AV.int (a * b)) else PM.fail:PM AV) σ=_
 rw [h,Bool.or_true];rfl
theorem run_modB {a b:Int} (h:b≠0):binA .Mod (.int a) (.int b) σ=some (.ok (.int (a.fmod b)),σ):=by
 show (if b≠0 then pure (AV.int (a.fmod b)) else PM.fail:PM AV) σ=_
 rw [if_pos h];rfl
noncomputable def poolEnd (big:AV):PM AV:=(((((seqA [(((((((((((callB tb0 .int [big]))>>=λ v6=>(binA .Mod v6 (.int 2147483629))))>>=λ v7=>(((((binA .Mult (.int 7919) (.int 0)))>>=λ v8=>(binA .Mult v8 (.int 0))))>>=λ v9=>(binA .Add v7 v9))))>>=λ v10=>(((binA .Mult (.int 31) (.int 0)))>>=λ v11=>(binA .Add v10 v11))))>>=λ v12=>(binA .Add v12 (.int 17))))>>=λ v13=>(binA .Mult v13 (.int 48271)))]>>=λ vs14=>(callB tb0 .int vs14)))>>=λ v15=>(binA .Mod v15 (.int 2147483647))))>>=λ x16=>(seqA [(((seqA [((((binA .Pow (.int 10) (.int 18)))>>=λ v17=>(cmpA .GtE big v17))>>=λ b=>pure (.bool b))]>>=λ vs18=>(callB tb0 .int vs18)))>>=λ v19=>(binA .Mult big v19)),(pure x16)]>>=λ vs20=>(newL vs20)))
theorem pool_end (big:Int):∃ a b:Int,poolEnd (.int big) σ=some (.ok (.obj σ.length),σ++[.list [.int a,.int b]]):=by
 have hp:binA .Pow (.int 10) (.int 18) σ=some (.ok (.int (10 ^ 18)),σ):=by kernel_rfl
 refine⟨_,_,run_bind (run_bind (run_seq (run_bind (run_bind (run_bind (run_bind (run_bind (σ₁:=σ) (v:=.int big) rfl (run_modB (by decide))) (run_bind (run_bind (run_mulB rfl) (run_mulB rfl)) rfl)) (run_bind (run_mulB rfl) rfl)) rfl) (run_mulB rfl)) rfl) (run_modB (by decide))) (run_seq (run_bind (run_seq (run_bind (run_bind hp (run_cmp rfl)) rfl) rfl) (run_mulB ?_)) (run_seq (σ₁:=σ) rfl (run_nil (run_newL (Nat.le_of_ble_eq_true rfl)))))⟩
 cases decide (((10:Int) ^ 18)≤big)<;>rfl
theorem pool_run (ns:List Int):∃ a b:Int,callF tb0 fuel (d + 1) 693 [.fl ns,.int 0] σ=some (.ok (.obj σ.length),σ++[.list [.int a,.int b]]):=by
 refine rwg (den_693 ..) ?_
 cases ns with
 | nil=>
  refine ex21 (pool_end (σ:=σ) (if (0:Int) < -1 - 0 then -1 - 0 else 0)) λ a b e=>?_
  exact⟨a,b,run_bind (v:=false) (σ₁:=σ) rfl (run_bind (run_seq (σ₁:=σ) (v:=.int 0) rfl (run_seq (σ₁:=σ) (v:=.int (-1 - 0)) rfl rfl)) e)⟩
 | cons n r=>
  refine ex21 (pool_end (σ:=σ) (if n < -1 - n then -1 - n else n)) λ a b e=>?_
  have h0:subA (.fl (n :: r)) (.int 0) σ=some (.ok (.int n),σ):=by
   show PM.ofOpt (((placeOf 0 (n :: r).length).bind λ j=>(n :: r)[j]?).map AV.int) σ=_
   have:placeOf 0 (n :: r).length=some 0:=by
    unfold placeOf
    rw [if_pos (Int.le_refl 0),if_pos (by simp)];rfl
   rw [this];rfl
  have hl:cmpV σ .Lt (.int 0) (.int (n :: r).length)=some true:=congrArg some (decide_eq_true (by simp))
  exact⟨a,b,run_bind (v:=true) (σ₁:=σ) (run_bind (v:=.int (n :: r).length) (σ₁:=σ) rfl (run_cmp hl)) (run_bind h0 (run_bind (run_seq (σ₁:=σ) (v:=.int n) rfl (run_seq (σ₁:=σ) (v:=.int (-1 - n)) rfl rfl)) e))⟩
theorem W_run {α:Type} {m:PM α} {Q:α→AH→Prop} {E:AV→AH→Prop} {v:α} (h:m σ=some (.ok v,σ')) (q:Q v σ'):W m Q E σ:=by
 unfold W;rw [h];exact q
theorem law_true (hf:100000≤fuel) (ns:List Int):∃ σ',callF tb0 fuel 40 835 [.fl ns] []=some (.ok (.bool true),σ'):=by
 have main:W (callF tb0 fuel 40 835 [.fl ns]) (λ v zz=>v = .bool true) (λ zz zz=>False) []:=by
  refine W.rw (den_835 ..) ?_
  refine ex21 (pool_run (fuel:=fuel) (d:=38) (σ:=[]) ns) λ a b e=>?_
  show W (callF tb0 fuel 39 693 [.fl ns,.int 0]>>=_) _ _ _
  refine W.bind ?_
  refine W_run e ?_
  dsimp only [List.nil_append,List.length_nil]
  have sr:Sr 0 [AO.list [.int a,.int b]]:=⟨a,b,rfl⟩
  have bt:BT 0 8308 11 (callF tb0 fuel 39 755 [.obj 0,.int 3]>>=λ v=>callF tb0 fuel 39 728 [v]):=BT.list (by lia) (bl_law (by lia) (by lia))
  refine W.bind ?_
  have es:(seqA [callF tb0 fuel 39 755 [.obj 0,.int 3]]>>=λ vs2=>callF tb0 fuel 39 728 vs2)=(callF tb0 fuel 39 755 [.obj 0,.int 3]>>=λ v=>callF tb0 fuel 39 728 [v]):=seqA_one _ _
  show W (seqA [callF tb0 fuel 39 755 [.obj 0,.int 3]]>>=λ vs2=>callF tb0 fuel 39 728 vs2) _ _ _
  rw [es]
  refine bt _ _ _ sr λ v t σ₁ ot s1 k1 r1=>?_
  unfold K835_3
  refine W.bind ?_
  refine W_run (σ':=σ₁++[.dict [(nm "text",.str []),(nm "row",.int 1),(nm "column",.int 1)]]) (v:=.obj σ₁.length) rfl ?_
  have l0:=s1.lt
  have r2:RepT (σ₁++[.dict [(nm "text",.str []),(nm "row",.int 1),(nm "column",.int 1)]]) (Iv 1 σ₁.length) v t:=r1.move _ (λ zz p=>p) λ i o zz e=>getApp e
  have hst:St σ₁.length ([]++[]) (σ₁++[.dict [(nm "text",.str []),(nm "row",.int 1),(nm "column",.int 1)]]):=get_push _ _
  refine W.bind ?_
  refine W_written hf (by lia) t (p:=[]) (g:=[]) (P:=Iv 1 σ₁.length) (by have:=ot.hg;lia) ot.ws r2 (λ h=>by have:=h.1;lia) (λ h=>by have:=h.2;lia) hst (s1.app _) (by decide) (by have:=ot.le;show 0 + Mine.wt t≤90000;lia) λ t' σ₂ h1 h2 h3 h4 h5 h6 h7 h8 h9=>?_
  subst h1
  have H:Wt t':=⟨h2,h3,ot.ws,by have:=ot.le;lia,by have:=ot.le;lia⟩
  have hP:¬ Iv 1 σ₁.length σ₁.length:=λ h=>by have:=h.2;lia
  have hd:hg (er t') + 5≤29 + 10:=by have:=ot.hg;lia
  cases hfw:fw t' with
  | some ab=>
   obtain⟨σ₃,e3⟩:=law_bad (d:=29) (a:=ab.1) (b:=ab.2) hf H h4 hd h5 hP h8 hfw
   exact W_run e3 rfl
  | none=>
   have hi:=fwP_it (t:=t') (q:=(1,1))
   rw [show fwP (1,1) t'=fw t' from fwP_eq h4,hfw] at hi
   obtain⟨it,hit⟩:=Option.isSome_iff_exists.mp hi.symm
   obtain⟨σ₃,e3⟩:=law_good (d:=29) hf H hd h5 hP h8 hit hfw
   exact W_run e3 rfl
 obtain⟨v,σ',e,q⟩:=main.run
 exact⟨σ',q▸e⟩
end
end
end Mine
section
open PySem PySem.W PySem.Calls PyProof.Rows
namespace Mine
set_option tactic.hygienic true in
theorem lawRun_ok {w:World} {s:Shared} {K:Frag} {loose:List Str} {mg mb:Str→Option Value} {mn:ExcName→Option Value} {h₁:Heap} {ns:List Int} {vs:List Value} {a fa:Addr} {cdv:Value} {m:Str→Option Value} {name:Str} {body:List Stmt} {sc:Scope} {tk:Nat}
  (T:Top viewL loose mn mg mb s.heap) (KX:K.In s.heap) (hF:factsT K=goodT) (hL:s.heap.IsList a vs.toArray) (hI:IntsAre vs ns) (hn:ns.length≤100) (F:Fr s.heap s.heap.objs.size h₁ m) (hm:m (nm "script")=some (.ref a))
  (hb:fn0 835=some ([nm "script"],body,sc)) (hnc:(sc.names.all λ p=>p.2 != .cell && p.2 != .free)=true) (ht:0 < tk) {Q:Flow→Shared→Prop} {E:Value→Shared→Prop}
  (hQ:∀ h' tk',(∀ b o,s.heap.get? b=some o→h'.get? b=some o)→Q (.ret (.bool true)) { s with heap:=h',toks:=tk' }):
  wpAny (model pwL w) (callerA.deeper (envOf name sc s.heap.objs.size fa cdv)) (execs body (envOf name sc s.heap.objs.size fa cdv)) Q E { s with heap:=h₁,toks:=tk }:=by
 have FK:=Facts.of hF
 let G:Gd:={ prog:=pwL,w:=w,K:=K,base:=s.heap,T:=tb0,p:=viewL,loose:=loose,mg:=mg,mb:=mb,hK:=KX,tr:=topRead_of T }
 obtain⟨k1,k2⟩:=Prod.mk.inj FK.kcls
 have hb4:=FK.bis
 simp only [List.cons.injEq,and_true] at hb4
 have GK:Gok G:=Tab.ok (G:=G) FK.tab T.nolimit ⟨k1,k2⟩ hb4
 have GX:Exk G:=exkOk_at (G:=G) rfl FK.exk FK.exf FK.exo
 generalize henv:envOf name sc s.heap.objs.size fa cdv=env at *
 have hsce:env.scope=sc:=by rw [← henv];rfl
 obtain⟨σ',e⟩:=law_true (fuel:=100000) (Nat.le_refl _) ns
 unfold callF at e
 rw [show tb0.fn 835=_ from hb] at e
 dsimp only at e
 split at e
 case isFalse=>cases e
 rename_i hc
 have hok:=hc.2
 unfold fnOk at hok
 simp only [Bool.and_eq_true,List.all_eq_true,Bool.or_eq_true,decide_eq_true_eq] at hok
 obtain⟨⟨⟨⟨hsc,hnf⟩,hpk⟩,hpn⟩,hnn⟩:=hok
 have hsc':=hsc
 unfold scOk at hsc'
 simp only [Bool.and_eq_true,Bool.not_eq_true',decide_eq_true_eq] at hsc'
 obtain⟨⟨⟨hkind,hgen⟩,hco⟩,_⟩:=hsc'
 have hcells:env.cells=[]:=by rw [← henv];rfl
 have hko:∀ x,env.kindOf x=sc.names.lookup x:=λ x=>by rw [← henv];rfl
 have hframe:env.frame=some s.heap.objs.size:=by rw [← henv];rfl
 have hloc:env.locals=s.heap.objs.size:=by rw [← henv];rfl
 have noc:∀ x c,env.cells.lookup x=some c→False:=λ x c e=>by rw [hcells] at e;cases e
 have nown:∀ b,¬ Own [] b:=λ b z=>by obtain⟨p,hp,_⟩:=z;cases hp
 have I:Inv G [s.heap.objs.size] [] [] h₁:=⟨rfl,λ i o p e zz=>(nomatch e),λ i j p q zz e zz=>(nomatch e),λ p hp=>(nomatch hp),F.keep,by
   obtain⟨o,es,n,ho,_⟩:=F.ns
   exact Nat.le_of_lt (Heap.lt_size ho),λ b hb=>by
   obtain rfl:=List.mem_singleton.mp hb
   exact⟨⟨_,F.ns⟩,nown _,Nat.le_refl _⟩⟩
 have hH:At (callerA.deeper env) [s.heap.objs.size] 39:=⟨rfl,⟨env,[],_,rfl,hframe,rfl,λ e he=>by
   obtain rfl:=List.mem_singleton.mp he
   exact⟨by rw [hsce,hkind];decide,by rw [hframe];rfl⟩⟩,Nat.le_of_ble_eq_true rfl,Nat.le_of_ble_eq_true rfl⟩
 have N:En env sc [s.heap.objs.size]:=⟨by rw [hsce];exact hkind,by rw [← henv];rfl,by rw [← henv];rfl,⟨_,[],rfl,hframe⟩,λ x e=>by rw [hko];exact e,λ x e=>by rw [hko];exact e,λ x e=>.inl (by rw [hko];exact e),λ x e=>by rw [hko];exact e,hsc⟩
 have Fe:Fn G env [s.heap.objs.size]:=⟨⟨[],by rw [hloc]⟩,λ x y c e1 zz=>(noc x c e1).elim,λ x c e=>(noc x c e).elim⟩
 have nocell:∀ x,¬ (env.kindOf x=some .cell∨env.kindOf x=some .free):=λ x k=>by
  rw [hko] at k
  rcases k with k | k<;>have q:=List.all_eq_true.mp hnc _ (look_in k)<;>cases q
 have Lc1:Loc G env ([nm "script"].zip [.fl ns]) [] h₁:=⟨⟨m,by rw [hloc];exact F.ns,λ x b eb k=>by
   have eb:(if nm "script" = x then some (AV.fl ns) else none)=some b:=eb
   split at eb
   ·cases eb;rename_i hx;subst hx
    exact⟨_,hm,a,vs,rfl,hL,hI,hn⟩
   ·cases eb⟩,λ x c e=>(noc x c e).elim,λ x k=>(nocell x k).elim,nown _⟩
 have C:=(calls_ok GK GX 100000 39).call GK hH
 have st:=(st_all GK hH C (ra_ok GK GX hH C) (tr_ok GK GX hH C) 60).2
 refine wpAny_mono (st sc body _ _ env N Fe [] [] { s with heap:=h₁,toks:=tk } _ _ ht I Lc1 e) ?_ ?_
 ·intro f s2 q
  cases f with
  | next=>
   obtain⟨lc',h2,tk2,ι2,σ2,rfl,S,I3,_,e2⟩:=q
   cases e2
  | ret v=>
   obtain⟨b,hb,h2,tk2,ι2,rfl,S,I3,hv⟩:=q
   cases hb
   have hv:v = .bool true:=hv
   subst hv
   exact hQ _ _ I3.base
  | brk=>exact q.elim
  | cont=>exact q.elim
 ·rintro x s2 ⟨p,hp,_⟩
  cases hp
theorem s_res:namesResolve pwL=true:=by rw [Fast.te8377067652309620493];kernel_rfl
theorem s_bnd:(pwL.boundNames.all (λ n=>!worldNames.contains n))=true:=by rw [Fast.te18344453789297297638,Fast.te14412699480532031325];kernel_rfl
theorem s_meet:(namesMeet pwL pwL.main.body λ zz n=>attrL n)=true:=by rw [Fast.te17119622794617984870];kernel_rfl
theorem s_look:looksOpen pwL=true:=by unfold looksOpen;rw [s_res,s_bnd,s_meet,Fast.te8326940854005059898];kernel_rfl
theorem s_row:PySem.Challenge.rw_og0028_01.row.wellSaid=true:=by unfold OpenRow.wellSaid OpenRow.partSaid;rw [s_look];kernel_rfl
theorem saidL:PySem.Challenge.rw_og0028_01.wellSaid=true:=by unfold OpenLaw.wellSaid;rw [s_row,Fast.te17119622794617984870,Fast.te8326940854005059898,Fast.te8179353310426384613,Fast.te10501279942588096481];kernel_rfl
noncomputable def SaysL (_:World) (h:Heap):Prop:=HasF h
theorem says_of (w:World) (s:Shared) (e:HasF s.heap=True):SaysL w s.heap:=of_eq_true e
theorem says_keeps (w:World) (h h':Heap) (x:SaysL w h) (k:∀ b o,h.get? b=some o→h'.get? b=some o):SaysL w h':=by
 obtain⟨K,i,e⟩:=x
 exact⟨K,λ a o q=>k a o (i a o q),e⟩
end Mine
open Mine in
set_option tactic.hygienic true in
theorem Mine.the_law:PySem.Challenge.rw_og0028_01.Holds:=by
 refine holds_law saidL λ said=>?_
 refine holds_open (q:=viewL) (loose:=looseL) (Xt:=xtL) (XP:=XL viewL []) (Yf:=λ s=>HasF s.heap) (Ya:=λ zz=>True) (YP:=SaysL) (N:=8000) leftL says_of says_keeps (λ s e=>xl_of s (Bool.and_eq_true_iff.mp e).1) XL.keeps (by rfl) (by rfl) (by rfl) (λ s e=>recFacts_of (Bool.and_eq_true_iff.mp e).2) (by rfl) (by assumption) (by decide +kernel) ⟨rfl,rfl,rfl,rfl,rfl,by decide +kernel⟩ ?hw ?hc
 case hw=>w_witness2
 case hc=>
  intro w s₀ s₁ mg mb G Y fa o pm cd doc dV kV ho hd hcd hD hmg hg args vals as hpre hlay hrd hwl hlo
  obtain⟨K,KX,hF⟩:=Y
  refine Ground.open G ?_
  intro T B D TE TW
  clear D
  have TA:=at_of_top T
  obtain⟨_,_,he,B0⟩:=based_of_top T rfl hmg ho hd
  have he':cd=_:=he
  subst he'
  clear he hmg
  wrow_args hpre hlay hrd hwl hlo
  refine enter_call ?_
  w_top on
  refine codeAny_mono ?_ (λ zz zz g=>GoodW.toG g)
  have K0:=below_caller (Top.heap T)
  w_call any ho hd hcd hD T F
  clear hd TA
  rename_i hcond _ _ _ F _
  refine lawRun_ok ‹Top _ _ _ _ _ _› KX hF ‹Heap.IsList _ _ _› ‹IntsAre _ _› (by lia) F (by rfl) (by rfl) (by rfl) (by show 0 < _ + 1;lia) ?_
  intro h' tk' kp
  exact⟨.inl ⟨.bool true,.bool true,[],rfl,λ zz=>rfl,.bool true,postW_of (X:=true) rfl (by wtm_val) rfl,λ zz=>⟨List.nodup_nil,λ a ha=>nomatch ha⟩⟩,kp,rfl,hg⟩
end
theorem PySem.Challenge.cw_og0028_01_holds : PySem.Challenge.rw_og0028_01.Holds :=
  Mine.the_law
