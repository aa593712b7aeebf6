import PyProof.Rows.All
import Wide.All
import OpenK.AllK
import KE.KIsAll
import KE.KItem
import KE.KDictSum
import Wide.FinOn
import Lean
import PySem.Challenge.RW_xw0011_01
set_option autoImplicit false
set_option Elab.async false
set_option maxRecDepth 100000
set_option linter.unusedVariables false
set_option bootstrap.genMatcherCode false
set_option genSizeOf false
set_option genInjectivity false
set_option backward.match.sparseCases false
theorem Mine.zNS {α : Type} {a : α} {G : Prop} (h : (none : Option α) = some a) : G := nomatch h
theorem Mine.zSN {α : Type} {a : α} {G : Prop} (h : some a = (none : Option α)) : G := nomatch h
theorem Mine.zFT {G : Prop} (h : false = true) : G := nomatch h
theorem Mine.zTF {G : Prop} (h : true = false) : G := nomatch h
@[elab_as_elim] theorem Mine.zRW {α : Sort _} {a b : α} {p : α → Prop} (h : a = b) (e : p b) : p a := h ▸ e
local macro_rules | `(tactic| cases $h:ident) => `(tactic| first | exact Mine.zNS $h | exact Mine.zFT $h | exact Mine.zSN $h | exact Mine.zTF $h | cases ($h))
local macro_rules
  | `(tactic| rw [$e:term]) => `(tactic| (first | (with_reducible refine Mine.zRW $e ?_) | rewrite [$e:term]); try (with_reducible rfl))
  | `(tactic| rw [$e:term, $es,*]) => `(tactic| (first | (with_reducible refine Mine.zRW $e ?_) | rewrite [$e:term]); rw [$es,*])
local macro_rules | `(tactic| nofun) => `(tactic| kernel_rfl)
noncomputable section
open PySem PySem.W PyProof.Rows PySem.Calls
namespace Mine
variable (P:Params)
abbrev aD:=@Option.some.inj
abbrev ar:=@Nat.eq_of_beq_eq_true
abbrev bK:=@Nat.le_of_ble_eq_true
abbrev aF:=@wpAny_bind
abbrev aP:=@wpAny_pure
abbrev bL:=@wpAny_execs_cons
abbrev cK:=@Heap.get?_push_of_some
abbrev bE:=@Heap.lt_size
abbrev cL:=@wpAny_holding
abbrev bI:=@wpAny_mono
theorem aM {α:Type _} {a b:α} {l:List α} (h:a∈b::l):a=b∨a∈l:=List.mem_cons.mp h
theorem aj {α:Type _} {a b:α} (h:a∈[b]):a=b:=List.mem_singleton.mp h
theorem bY {α β:Type _} {o:Option α} {f:α→β} {b:β} (h:o.map f=some b):∃ a,o=some a∧f a=b:=Option.map_eq_some_iff.mp h
def encL (l:List Nat):Nat:=List.rec (motive:=λ_=>Nat) 0 (λc _ ih=>Nat.add c (Nat.mul 256 ih)) l
noncomputable def Bv:Nat→Nat→List Nat
 | 0,_=>[]
 | f+1,n=>cond (Nat.beq n 0) [] (((n - 1) % 256+1)::Bv f ((n - 1) / 256))
noncomputable def Bw (n:Nat):List Nat:=Bv n n
noncomputable def dec (n:Nat):Str:=⟨(Bw n).toArray⟩
def enc (s:Str):Nat:=encL s.cps.toList
def ZQ (l:List Nat):Bool:=List.rec (motive:=λ_=>Bool) true (λc _ ih=>Bool.rec (motive:=λ_=>Bool) false (Bool.rec (motive:=λ_=>Bool) false ih (Nat.ble c 256)) (Nat.ble 1 c)) l
theorem QW (l:List Nat):ZQ l=l.all λc=>Nat.ble 1 c&&Nat.ble c 256:=by
 induction l with
 | nil=>rfl
 | cons c r ih =>
  show (Bool.rec (motive:=λ_=>Bool) false (Bool.rec (motive:=λ_=>Bool) false (ZQ r) (Nat.ble c 256)) (Nat.ble 1 c):Bool)=_
  rw [ih,List.all_cons]
  cases Nat.ble 1 c<;>cases Nat.ble c 256<;>rfl
def fo (s:Str):Bool:=ZQ s.cps.toList
theorem Ej (s:Str):fo s=s.cps.toList.all λc=>Nat.ble 1 c&&Nat.ble c 256:=QW _
theorem Ek (f:Nat):∀ n:Nat,n≤f→encL (Bv f n)=n:=by
 induction f with
 | zero=>exact λn h=>(Nat.le_zero.mp h).symm
 | succ f ih =>
  intro n h
  cases n with
  | zero=>rfl
  | succ n =>
   show (n % 256+1)+256 * encL (Bv f (n / 256))=n+1
   rw [ih _ (Nat.le_trans (Nat.div_le_self _ _) (Nat.le_of_succ_le_succ h)),Nat.add_right_comm,Nat.mod_add_div]
theorem El (n:Nat):encL (Bw n)=n:=Ek n n (Nat.le_refl _)
theorem jF (n:Nat):enc (dec n)=n:=El n
theorem fX {a b:Nat} (h:dec a=dec b):a=b:=by rw [← jF a,← jF b,h]
theorem Bx (l:List Nat):∀ f:Nat,(∀ c∈l,1≤c∧c≤256)→encL l≤f→Bv f (encL l)=l:=by
 induction l with
 | nil=>intro f _ _; cases f<;>rfl
 | cons c r ih =>
  intro f h hf
  have hc:=h c (.head _)
  cases c with
  | zero=>exact absurd hc.1 (Nat.not_succ_le_zero 0)
  | succ c =>
   have e:encL ((c+1)::r)=(c+256 * encL r)+1:=Nat.succ_add _ _
   rw [e] at hf ⊢
   cases f with
   | zero=>exact absurd hf (Nat.not_succ_le_zero _)
   | succ f =>
    show ((c+256 * encL r) % 256+1)::Bv f ((c+256 * encL r) / 256)=(c+1)::r
    rw [Nat.add_mul_mod_self_left,Nat.mod_eq_of_lt hc.2,Nat.add_mul_div_left _ _ (by decide:0<256),Nat.div_eq_of_lt hc.2,Nat.zero_add,ih f (λx hx=>h x (.tail _ hx)) (Nat.le_trans (Nat.le_trans (Nat.le_mul_of_pos_left _ (by decide)) (Nat.le_add_left _ c)) (Nat.le_of_succ_le_succ hf))]
theorem dec_enc {s:Str} (h:fo s=true):dec (enc s)=s:=by
 have:Bw (enc s)=s.cps.toList:=Bx _ _ (λc hc=>by
  have:=List.all_eq_true.mp (Ej s▸h) c hc
  rw [Bool.and_eq_true] at this
  exact ⟨bK this.1,bK this.2⟩) (Nat.le_refl _)
 unfold dec
 rw [this]
inductive IT where
 | c (i:Int)
 | v (n:Nat)
noncomputable def IT.ev (ν:Nat→Int):IT→Int
 | .c i=>i
 | .v n=>ν n
inductive SV where
 | none
 | bool (b:Bool)
 | int (t:IT)
 | str (n:Nat)
 | ref (n:Nat)
 | kref (a:Nat)
 | ty (n:Nat)
 | bi (n:Nat)
 | anyN
inductive SO where
 | inst (C:Nat) (d:Nat)
 | dict (es:List (Nat×SV))
 | list (xs:List SV)
 | tup (xs:List SV)
 | rng (n:Nat)
 | ilist
 | cell (v:Option SV)
noncomputable def ag:SO→Bool
 | .tup _=>true
 | _=>false
noncomputable def tyName (n:Nat):String:=match n with
 | 0 => "list" | 1 => "range" | 2 => "str" | 3 => "int" | 4 => "dict" | 5 => "tuple" | 6 => "bool" | 7 => "NoneType" | 8 => "Exception" | _ => "object"
noncomputable def sI (n:Nat):String:=match n with
 | 0 => "len" | 1 => "max" | 2 => "isinstance" | 3 => "sorted" | _ => "abs"
inductive Tr where
 | e
 | lf (o:SO)
 | nd (l r:Tr)
namespace Tr
def get (d:Nat):Tr→Nat→Option SO :=
 Nat.rec (motive:=λ_=>Tr→Nat→Option SO)
  (λt _=>Tr.rec (motive:=λ_=>Option SO) none (λo=>some o) (λ_ _ _ _=>none) t)
  (λ_ ih t n=>Tr.rec (motive:=λ_=>Option SO) none (λ_=>none) (λl r _ _=>Bool.rec (motive:=λ_=>Option SO) (ih r (Nat.div n 2)) (ih l (Nat.div n 2)) (Nat.beq (Nat.mod n 2) 0)) t) d
def put (d:Nat):Tr→Nat→SO→Tr :=
 Nat.rec (motive:=λ_=>Tr→Nat→SO→Tr)
  (λ_ _ o=>.lf o)
  (λ_ ih t n o=>Tr.rec (motive:=λ_=>Tr)
   (Bool.rec (motive:=λ_=>Tr) (.nd .e (ih .e (Nat.div n 2) o)) (.nd (ih .e (Nat.div n 2) o) .e) (Nat.beq (Nat.mod n 2) 0))
   (λ_=>Bool.rec (motive:=λ_=>Tr) (.nd .e (ih .e (Nat.div n 2) o)) (.nd (ih .e (Nat.div n 2) o) .e) (Nat.beq (Nat.mod n 2) 0))
   (λl r _ _=>Bool.rec (motive:=λ_=>Tr) (.nd l (ih r (Nat.div n 2) o)) (.nd (ih l (Nat.div n 2) o) r) (Nat.beq (Nat.mod n 2) 0)) t) d
theorem yC (d:Nat) (l r:Tr) (n:Nat):get (d+1) (.nd l r) n=cond (Nat.beq (n % 2) 0) (get d l (n / 2)) (get d r (n / 2)):=by
 show Bool.rec (motive:=λ_=>Option SO) (get d r (Nat.div n 2)) (get d l (Nat.div n 2)) (Nat.beq (Nat.mod n 2) 0)=cond (Nat.beq (Nat.mod n 2) 0) (get d l (Nat.div n 2)) (get d r (Nat.div n 2))
 cases Nat.beq (Nat.mod n 2) 0<;>rfl
theorem QX (d:Nat) (l r:Tr) (n:Nat) (o:SO):put (d+1) (.nd l r) n o=cond (Nat.beq (n % 2) 0) (.nd (put d l (n / 2) o) r) (.nd l (put d r (n / 2) o)):=by
 show Bool.rec (motive:=λ_=>Tr) (.nd l (put d r (Nat.div n 2) o)) (.nd (put d l (Nat.div n 2) o) r) (Nat.beq (Nat.mod n 2) 0)=cond (Nat.beq (Nat.mod n 2) 0) (.nd (put d l (Nat.div n 2) o) r) (.nd l (put d r (Nat.div n 2) o))
 cases Nat.beq (Nat.mod n 2) 0<;>rfl
theorem Th (d:Nat) (n:Nat) (o:SO):put (d+1) .e n o=cond (Nat.beq (n % 2) 0) (.nd (put d .e (n / 2) o) .e) (.nd .e (put d .e (n / 2) o)):=by
 show Bool.rec (motive:=λ_=>Tr) (.nd .e (put d .e (Nat.div n 2) o)) (.nd (put d .e (Nat.div n 2) o) .e) (Nat.beq (Nat.mod n 2) 0)=cond (Nat.beq (Nat.mod n 2) 0) (.nd (put d .e (Nat.div n 2) o) .e) (.nd .e (put d .e (Nat.div n 2) o))
 cases Nat.beq (Nat.mod n 2) 0<;>rfl
theorem QY (d:Nat) (x:SO) (n:Nat) (o:SO):put (d+1) (.lf x) n o=cond (Nat.beq (n % 2) 0) (.nd (put d .e (n / 2) o) .e) (.nd .e (put d .e (n / 2) o)):=by
 show Bool.rec (motive:=λ_=>Tr) (.nd .e (put d .e (Nat.div n 2) o)) (.nd (put d .e (Nat.div n 2) o) .e) (Nat.beq (Nat.mod n 2) 0)=cond (Nat.beq (Nat.mod n 2) 0) (.nd (put d .e (Nat.div n 2) o) .e) (.nd .e (put d .e (Nat.div n 2) o))
 cases Nat.beq (Nat.mod n 2) 0<;>rfl
theorem QZ (d:Nat) (x:SO) (n:Nat):get (d+1) (.lf x) n=none:=rfl
theorem uE:∀ (d n:Nat),get d .e n=none
 | 0,_=>rfl
 | _+1,_=>rfl
theorem Ti {x:Nat} (h:Nat.beq (x % 2) 0=false):x % 2=1:=(Nat.mod_two_eq_zero_or_one x).resolve_left λw=>by rw [w] at h; cases h
theorem Ab {α:Type} {x y:α} {m n:Nat} (e:m % 2=n % 2):(if m / 2=n / 2 then x else y)=if m=n then x else y:=by
 by_cases h:m=n
 ·rw [if_pos h,if_pos (congrArg (· / 2) h)]
 ·rw [if_neg h,if_neg λw=>h (by rw [← Nat.div_add_mod m 2,w,e,Nat.div_add_mod])]
theorem Iz {d n m:Nat} {o:SO} (ih:∀ t,get d (put d t (n / 2) o) (m / 2)=if m / 2=n / 2 then some o else get d t (m / 2)) (l r:Tr):get (d+1) (cond (Nat.beq (n % 2) 0) (.nd (put d l (n / 2) o) r) (.nd l (put d r (n / 2) o))) m=if m=n then some o else get (d+1) (.nd l r) m:=by
 cases a:Nat.beq (n % 2) 0<;>rw [yC]<;>refine Eq.trans (yC ..) ?_<;>cases b:Nat.beq (m % 2) 0
 ·exact (ih r).trans (Ab ((Ti b).trans (Ti a).symm))
 ·exact (if_neg λw=>by rw [w,a] at b; cases b).symm
 ·exact (if_neg λw=>by rw [w,a] at b; cases b).symm
 ·exact (ih l).trans (Ab ((ar b).trans (ar a).symm))
theorem d6 (d:Nat):∀ (t:Tr) (n m:Nat) (o:SO),n<2 ^ d→m<2 ^ d→get d (put d t n o) m=if m=n then some o else get d t m:=by
 induction d with
 | zero=>exact λt n m o hn hm=>(if_pos ((Nat.lt_one_iff.mp hm).trans (Nat.lt_one_iff.mp hn).symm)).symm
 | succ d ih =>
  intro t n m o hn hm
  have ih:=Iz (o:=o) λt=>ih t (n / 2) (m / 2) o (Nat.div_lt_of_lt_mul (by rw [Nat.mul_comm]; exact hn)) (Nat.div_lt_of_lt_mul (by rw [Nat.mul_comm]; exact hm))
  have ge:get (d+1) (.nd .e .e) m=none:=by rw [yC,uE]; cases Nat.beq (m % 2) 0<;>rfl
  cases t with
  | nd l r=>rw [QX]; exact ih l r
  | e=>rw [Th,uE]; exact (ih .e .e).trans (by rw [ge])
  | lf x=>rw [QY,QZ]; exact (ih .e .e).trans (by rw [ge])
end Tr
structure Hp where
 t:Tr
def Hp.get (h:Hp) (n:Nat):Option SO:=Bool.rec (motive:=λ_=>Option SO) none (h.t.get 10 n) (Nat.ble (Nat.succ n) 1024)
def Hp.put (h:Hp) (n:Nat) (o:SO):Hp:=⟨h.t.put 10 n o⟩
theorem Hp.get_eq (h:Hp) (n:Nat):h.get n=cond (Nat.blt n 1024) (h.t.get 10 n) none:=by
 show Bool.rec (motive:=λ_=>Option SO) none (h.t.get 10 n) (Nat.blt n 1024)=cond (Nat.blt n 1024) (h.t.get 10 n) none
 cases Nat.blt n 1024<;>rfl
theorem aC {m n:Nat}:Nat.blt m n=true↔m<n:=⟨λh=>bK h,λh=>Nat.ble_eq_true_of_le h⟩
theorem Hp.Em {h:Hp} {n:Nat} {o:SO} (e:h.get n=some o):n<1024:=by
 rw [Hp.get_eq] at e
 cases hb:Nat.blt n 1024 with
 | true=>exact aC.mp hb
 | false=>rw [hb] at e; cases e
theorem Hp.d6 {h:Hp} {n m:Nat} {o:SO} (hn:n<1024):(h.put n o).get m=if m=n then some o else h.get m:=by
 rw [Hp.get_eq,Hp.get_eq]
 show cond (Nat.blt m 1024) ((h.t.put 10 n o).get 10 m) none=if m=n then some o else cond (Nat.blt m 1024) (h.t.get 10 m) none
 cases hb:Nat.blt m 1024 with
 | true=>exact Tr.d6 10 h.t n m o hn (aC.mp hb)
 | false =>
  have:¬ m<1024:=λq=>by rw [aC.mpr q] at hb; cases hb
  exact (if_neg λw:m=n=>this (w▸hn)).symm
theorem Hp.nD {h:Hp} {n m:Nat} {o so:SO} {C:Prop} (hn:n<1024) (e:(h.put n o).get m=some so) (k1:m=n→so=o→C) (k2:m≠n→h.get m=some so→C):C:=by
 rw [Hp.d6 hn] at e
 by_cases q:m=n
 ·rw [if_pos q] at e; exact k1 q (aD e).symm
 ·rw [if_neg q] at e; exact k2 q e
structure SS where
 loc:List (Nat×SV)
 hp:Hp
 nx:Nat
def lk {α:Type} (l:List (Nat×α)) (x:Nat):Option α:=List.rec (motive:=λ_=>Option α) none (λp _ ih=>Bool.rec (motive:=λ_=>Option α) ih (some p.2) (Nat.beq p.1 x)) l
theorem aQ {α:Type} (p:Nat×α) (r:List (Nat×α)) (x:Nat):lk (p::r) x=if p.1=x then some p.2 else lk r x:=by
 show (Bool.rec (motive:=λ_=>Option α) (lk r x) (some p.2) (Nat.beq p.1 x):Option α)=_
 cases h:Nat.beq p.1 x with
 | true=>exact (if_pos (ar h)).symm
 | false=>exact (if_neg (Nat.ne_of_beq_eq_false h)).symm
def Eg {α:Type} (l:List (Nat×α)) (x:Nat) (v:α):List (Nat×α):=List.rec (motive:=λ_=>List (Nat×α)) [(x,v)] (λp r ih=>cond (Nat.beq p.1 x) ((p.1,v)::r) (p::ih)) l
theorem uF {α:Type} {p:Nat×α} {r:List (Nat×α)} {x:Nat} {v:α}:Eg (p::r) x v=cond (Nat.beq p.1 x) ((p.1,v)::r) (p::Eg r x v):=rfl
noncomputable abbrev Nm:=Nat→Option Addr
noncomputable def Ext (ρ ρ':Nm):Prop:=∀ n a,ρ n=some a→ρ' n=some a
theorem Ext.refl (ρ:Nm):Ext ρ ρ:=λ_ _ h=>h
theorem Ext.trans {a b c:Nm} (x:Ext a b) (y:Ext b c):Ext a c:=λn q h=>y n q (x n q h)
section
variable (P:Params) (ν:Nat→Int)
noncomputable def VR (ρ:Nm):SV→Value→Prop
 | .none,v=>v=.none
 | .bool b,v=>v=.bool b
 | .int t,v=>∃ k,v=.int (t.ev ν) k
 | .str n,v=>∃ k,v=.str (dec n) k
 | .ref n,v=>∃ a,ρ n=some a∧v=.ref a
 | .kref a,v=>v=.ref a
 | .ty n,v=>v=.type (tyName n)
 | .bi n,v=>v=.builtin (sI n)
 | .anyN,v=>∃ i k,0≤i∧v=.int i k
noncomputable def bX (ρ:Nm):List SV→List Value→Prop
 | [],[]=>True
 | x::xs,v::vs=>VR ν ρ x v∧bX ρ xs vs
 | _,_=>False
noncomputable def dk (ρ:Nm):List (Nat×SV)→List DictEntry→Prop
 | [],[]=>True
 | p::r,e::es=>((∃ k,e.key=.str (dec p.1) k)∧e.hash=PyData.keyHash P (dec p.1)∧VR ν ρ p.2 e.val)∧dk ρ r es
 | _,_=>False
noncomputable abbrev bF (vs:List Value) (n:Nat):Obj:={ cls:=.type "list",data:=.seq vs.toArray n }
noncomputable abbrev ej (vs:List Value) (n:Nat):Obj:={ cls:=.type "tuple",data:=.seq vs.toArray n }
noncomputable def OR (ρ:Nm):SO→Obj→Prop
 | .inst C d,o=>∃ a,ρ d=some a∧o=instObj C a
 | .dict es,o=>∃ es',o=dictOf es' es'.length∧dk P ν ρ es es'
 | .list xs,o=>∃ vs n,o=bF vs n∧bX ν ρ xs vs
 | .tup xs,o=>∃ vs n,o=ej vs n∧bX ν ρ xs vs
 | .rng n,o=>∃ t u v,o={ cls:=.type "range",data:=.fields #[.int 0 t,.int n u,.int 1 v] }
 | .ilist,o=>∃ vs n,o=bF vs n∧vs.length≤64∧∀ v∈vs,∃ i k,v=.int i k
 | .cell none,o=>o.data=.cell none
 | .cell (some x),o=>∃ v,o.data=.cell (some v)∧VR ν ρ x v
end
section
variable {P:Params} {ν:Nat→Int} {ρ ρ':Nm}
theorem VR.mono (h:Ext ρ ρ') {x:SV} {v:Value} (q:VR ν ρ x v):VR ν ρ' x v:=by
 cases x with
 | ref n=>exact q.elim λa w=>⟨a,h _ _ w.1,w.2⟩
 | _=>exact q
theorem bX.ind {motive:List SV→List Value→Prop} (nil:motive [] []) (cons:∀ x xs v vs,VR ν ρ x v→bX ν ρ xs vs→motive xs vs→motive (x::xs) (v::vs)) {xs:List SV}:∀ {vs:List Value},bX ν ρ xs vs→motive xs vs:=by
 induction xs with
 | nil =>
  intro vs q
  cases vs with
  | nil=>exact nil
  | cons v vs=>exact q.elim
 | cons x xs ih =>
  intro vs q
  cases vs with
  | nil=>exact q.elim
  | cons v vs=>exact cons _ _ _ _ q.1 q.2 (ih q.2)
theorem dk.ind {motive:List (Nat×SV)→List DictEntry→Prop} (nil:motive [] []) (cons:∀ p r e es,((∃ k,e.key=.str (dec p.1) k)∧e.hash=PyData.keyHash P (dec p.1)∧VR ν ρ p.2 e.val)→dk P ν ρ r es→motive r es→motive (p::r) (e::es)) {xs:List (Nat×SV)}:∀ {vs:List DictEntry},dk P ν ρ xs vs→motive xs vs:=by
 induction xs with
 | nil =>
  intro vs q
  cases vs with
  | nil=>exact nil
  | cons v vs=>exact q.elim
 | cons x xs ih =>
  intro vs q
  cases vs with
  | nil=>exact q.elim
  | cons v vs=>exact cons _ _ _ _ q.1 q.2 (ih q.2)
theorem bX.mono (h:Ext ρ ρ') {xs:List SV} {vs:List Value} (q:bX ν ρ xs vs):bX ν ρ' xs vs:=q.ind (motive:=bX ν ρ') trivial λ_ _ _ _ a _ b=>⟨a.mono h,b⟩
theorem dk.mono (h:Ext ρ ρ') {xs:List (Nat×SV)} {vs:List DictEntry} (q:dk P ν ρ xs vs):dk P ν ρ' xs vs:=q.ind (motive:=dk P ν ρ') trivial λ_ _ _ _ a _ b=>⟨⟨a.1,a.2.1,a.2.2.mono h⟩,b⟩
theorem OR.mono (h:Ext ρ ρ') {x:SO} {o:Obj} (q:OR P ν ρ x o):OR P ν ρ' x o:=by
 cases x with
 | inst _ _=>exact q.elim λa w=>⟨a,h _ _ w.1,w.2⟩
 | dict _=>exact q.elim λa w=>⟨a,w.1,w.2.mono h⟩
 | list _=>exact q.elim λa w=>w.elim λn w=>⟨a,n,w.1,w.2.mono h⟩
 | tup _=>exact q.elim λa w=>w.elim λn w=>⟨a,n,w.1,w.2.mono h⟩
 | cell v =>
  cases v with
  | none=>exact q
  | some x=>exact q.elim λa w=>⟨a,w.1,w.2.mono h⟩
 | _=>exact q
theorem bX.length {xs:List SV} {vs:List Value} (q:bX ν ρ xs vs):vs.length=xs.length:=q.ind (motive:=λxs vs=>vs.length=xs.length) rfl λ_ _ _ _ _ _ b=>congrArg (·+1) b
theorem bX.get {xs:List SV} {vs:List Value} {i:Nat} {x:SV} (q:bX ν ρ xs vs):xs[i]?=some x→∃ v,vs[i]?=some v∧VR ν ρ x v:=by
 refine q.ind (motive:=λxs vs=>∀ i:Nat,xs[i]?=some x→∃ v,vs[i]?=some v∧VR ν ρ x v) (λ_ e=>nomatch e) (λy xs v vs a _ b i=>?_) i
 cases i with
 | zero=>exact λe=>⟨v,rfl,aD e▸a⟩
 | succ i=>exact b i
theorem bX.append {xs ys:List SV} {vs us:List Value} (q:bX ν ρ xs vs) (h:bX ν ρ ys us):bX ν ρ (xs++ys) (vs++us):=q.ind (motive:=λxs vs=>bX ν ρ (xs++ys) (vs++us)) h λ_ _ _ _ a _ b=>⟨a,b⟩
theorem bX.take {xs:List SV} {vs:List Value} (n:Nat) (q:bX ν ρ xs vs):bX ν ρ (xs.take n) (vs.take n):=by
 refine q.ind (motive:=λxs vs=>∀ n:Nat,bX ν ρ (xs.take n) (vs.take n)) (λn=>?_) (λy xs v vs a _ b n=>?_) n
 ·cases n<;>trivial
 ·cases n with
  | zero=>trivial
  | succ n=>exact ⟨a,b n⟩
theorem bX.drop {xs:List SV} {vs:List Value} (n:Nat) (q:bX ν ρ xs vs):bX ν ρ (xs.drop n) (vs.drop n):=by
 refine q.ind (motive:=λxs vs=>∀ n:Nat,bX ν ρ (xs.drop n) (vs.drop n)) (λn=>?_) (λy xs v vs a h b n=>?_) n
 ·cases n<;>trivial
 ·cases n with
  | zero=>exact ⟨a,h⟩
  | succ n=>exact b n
theorem bX.set {xs:List SV} {vs:List Value} (i:Nat) {x:SV} {v:Value} (q:bX ν ρ xs vs) (h:VR ν ρ x v):bX ν ρ (xs.set i x) (vs.set i v):=by
 refine q.ind (motive:=λxs vs=>∀ i:Nat,bX ν ρ (xs.set i x) (vs.set i v)) (λ_=>trivial) (λy xs v vs a w b i=>?_) i
 cases i with
 | zero=>exact ⟨h,w⟩
 | succ i=>exact ⟨a,b i⟩
theorem dk.length {xs:List (Nat×SV)} {vs:List DictEntry} (q:dk P ν ρ xs vs):vs.length=xs.length:=q.ind (motive:=λxs vs=>vs.length=xs.length) rfl λ_ _ _ _ _ _ b=>congrArg (·+1) b
end
structure Gd (K:Frag) (mg mb:Str→Option Value) (hG:Heap):Prop where
 X:K.In hG
 g:hG.Ns mainGlobals mg
 b:hG.Ns builtinsNs mb
 lim:hG.NoLimit
 mods:∃ o,hG.get? sysModules=some o
noncomputable def d7 (o:Obj):Prop:=o.cls=.none∧∃ es ep,o.data=.dict es ep
noncomputable def iE (o:Obj):Obj:={ o with cls:=.none }
noncomputable def KO (h:Heap) (b:Addr) (o:Obj):Prop:=∃ o',h.get? b=some o'∧o'.data=o.data∧(¬ d7 o→o'=o)
theorem KO.of {h:Heap} {b:Addr} {o:Obj} (e:h.get? b=some o):KO h b o:=⟨o,e,rfl,λ_=>rfl⟩
theorem KO.Tj {h:Heap} {b:Addr} {o:Obj} (e:h.get? b=some o) (hd:∃ es ep,o.data=.dict es ep):KO h b (iE o):=⟨o,e,rfl,λq=>absurd ⟨rfl,hd⟩ q⟩
theorem KO.mono {h h':Heap} {b:Addr} {o:Obj} (x:KO h b o) (k:∀ o,h.get? b=some o→h'.get? b=some o):KO h' b o:=let ⟨o',e,q⟩:=x; ⟨o',k _ e,q⟩
theorem KO.to {h:Heap} {b:Addr} {o:Obj} (x:KO h b o) (n:¬ d7 o):h.get? b=some o:=by obtain ⟨o',e,_,q⟩:=x; rw [← q n]; exact e
theorem KO.at {h:Heap} {b:Addr} {o:Obj} (x:KO h b o):∃ o',h.get? b=some o':=let ⟨o',e,_⟩:=x; ⟨o',e⟩
theorem kJ {o:Obj} {vs:Array Value} {n:Nat} (h:o.data=.seq vs n):¬ d7 o:=λ⟨_,_,_,e⟩=>by rw [h] at e; cases e
theorem kK {o:Obj} (h:o.cls≠.none):¬ d7 o:=λq=>h q.1
inductive Tl (P:Params) (ν:Nat→Int) (fz:Addr→Obj→Prop) (L:Addr) (ρ:Nm) (h:Heap) (n:Nat) (so:SO):Prop
 | mk (a:Addr) (o:Obj) (h1:ρ n=some a) (h2:h.get? a=some o) (h3:OR P ν ρ so o) (h4:a≠L) (h5:ag so=false→∀ o',¬ fz a o'):Tl P ν fz L ρ h n so
structure SR (P:Params) (ν:Nat→Int) (hG:Heap) (fz:Addr→Obj→Prop) (L:Addr) (ρ:Nm) (σ:SS) (s:Shared):Prop where
 fzk:∀ b o,fz b o→KO s.heap b o
 fc:∀ b o o',fz b o→fz b o'→d7 o→d7 o'
 gk:∀ b o,hG.get? b=some o→s.heap.get? b=some o
 gd:∀ b o,hG.get? b=some o→fz b o
 loc:∃ m,s.heap.Ns L m∧∀ x sv,lk σ.loc x=some sv→∃ v,m (dec x)=some v∧VR ν ρ sv v
 Lf:∀ o,¬ fz L o
 hp:∀ n so,σ.hp.get n=some so→Tl P ν fz L ρ s.heap n so
 inj:∀ n n' so so' a,σ.hp.get n=some so→σ.hp.get n'=some so'→ρ n=some a→ρ n'=some a→ag so=false→ag so'=false→n=n'
 dom:∀ n a,ρ n=some a→n<σ.nx
noncomputable def aT (s s':Shared):Prop:=∃ h t,s'={ s with heap:=h,toks:=t }
theorem aT.refl (s:Shared):aT s s:=⟨_,_,rfl⟩
theorem aT.trans {a b c:Shared}:aT a b→aT b c→aT a c:=by
 rintro ⟨h,t,rfl⟩ ⟨h',t',rfl⟩; exact ⟨h',t',rfl⟩
theorem aT.mk (s:Shared) (h:Heap) (t:Nat):aT s { s with heap:=h,toks:=t }:=⟨h,t,rfl⟩
section
variable {P:Params} {ν:Nat→Int} {hG:Heap} {fz:Addr→Obj→Prop} {L:Addr} {ρ:Nm} {σ:SS} {s s':Shared}
theorem SR.toks (S:SR P ν hG fz L ρ σ s) (t:Nat):SR P ν hG fz L ρ σ { s with toks:=t }:=⟨S.fzk,S.fc,S.gk,S.gd,S.loc,S.Lf,S.hp,S.inj,S.dom⟩
theorem SR.grow (S:SR P ν hG fz L ρ σ s) {h':Heap} {t:Nat} (k:∀ b o,s.heap.get? b=some o→h'.get? b=some o):SR P ν hG fz L ρ σ { s with heap:=h',toks:=t }:=by
 refine ⟨λb o e=>(S.fzk b o e).mono (k _),S.fc,λb o e=>k _ _ (S.gk b o e),S.gd,?_,S.Lf,λn so e=>?_,S.inj,S.dom⟩
 ·obtain ⟨m,hm,hv⟩:=S.loc
  exact ⟨m,hm.keeps k,hv⟩
 ·obtain ⟨a,o,h1,h2,h3,h4,h5⟩:=S.hp n so e
  exact ⟨a,o,h1,k _ _ h2,h3,h4,h5⟩
theorem SR.br (S:SR P ν hG fz L ρ σ s):∀ b o,hG.get? b=some o→s.heap.get? b=some o:=S.gk
theorem SR.store (S:SR P ν hG fz L ρ σ s) {h':Heap} {t:Nat} {x:Nat} {sv:SV} {v:Value} {m':Str→Option Value} (hv:VR ν ρ sv v)
 (hm:∃ m,s.heap.Ns L m∧(∀ x sv,lk σ.loc x=some sv→∃ v,m (dec x)=some v∧VR ν ρ sv v)∧m'=λy=>if y=dec x then some v else m y) (hn:h'.Ns L m') (hs:Heap.SameBut L s.heap h') :
 SR P ν hG fz L ρ { σ with loc:=(x,sv)::σ.loc } { s with heap:=h',toks:=t }:=by
 obtain ⟨m,hm,hl,rfl⟩:=hm
 refine ⟨λb o e=>?_,S.fc,λb o e=>(hs.2 b (λq=>by subst q; exact S.Lf _ (S.gd _ _ e))).trans (S.gk b o e),S.gd,⟨_,hn,λy sw e=>?_⟩,S.Lf,λn so e=>?_,S.inj,S.dom⟩
 ·exact (S.fzk b o e).mono λo' z=>(hs.2 b (λq=>by subst q; exact S.Lf _ e)).trans z
 ·rw [aQ] at e
  by_cases q:x=y
  ·rw [if_pos q] at e
   exact ⟨v,if_pos (congrArg dec q.symm),aD e▸hv⟩
  ·rw [if_neg q] at e
   exact (hl y sw e).elim λu w=>⟨u,(if_neg λz=>q (fX z).symm).trans w.1,w.2⟩
 ·obtain ⟨a,o,h1,h2,h3,h4,h5⟩:=S.hp n so e
  exact ⟨a,o,h1,(hs.2 a h4).trans h2,h3,h4,h5⟩
theorem En {a b:String} {C:Prop} (h:Value.type a=Value.type b) (n:a≠b):C:=absurd (Value.type.inj h) n
theorem Qa {so:SO} {vs:List Value} {n:Nat} (h:OR P ν ρ so (ej vs n)):ag so=true:=by
 cases so with
 | tup _=>rfl
 | inst C d=>obtain ⟨a,_,e⟩:=h; have:=congrArg Obj.data e; cases this
 | dict es=>obtain ⟨es',e,_⟩:=h; have:=congrArg Obj.data e; cases this
 | list xs=>exact h.elim λ_ h=>h.elim λ_ h=>En (congrArg Obj.cls h.1) (by decide)
 | rng n=>exact h.elim λ_ h=>h.elim λ_ h=>h.elim λ_ e=>En (congrArg Obj.cls e) (by decide)
 | ilist=>exact h.elim λ_ h=>h.elim λ_ h=>En (congrArg Obj.cls h.1) (by decide)
 | cell v =>
  cases v with
  | none=>have:Data.seq vs.toArray n=Data.cell none:=h; cases this
  | some v=>obtain ⟨u,e,_⟩:=h; have e:Data.seq vs.toArray n=Data.cell (some u):=e; cases e
theorem Qb {so so':SO} {ρ':Nm} {ν':Nat→Int} {o:Obj} (h:OR P ν ρ so o) (h':OR P ν' ρ' so' o) (hs:ag so=false):ag so'=false:=by
 cases q:ag so' with
 | false=>rfl
 | true =>
  cases so' with
  | tup xs =>
   obtain ⟨vs,n,rfl,_⟩:=h'
   rw [Qa h] at hs
   cases hs
  | _=>cases q
theorem SR.Tn (S:SR P ν hG fz L ρ σ s) {n n':Nat} {so so':SO} {a:Addr} (e:σ.hp.get n=some so) (e':σ.hp.get n'=some so') (h:ρ n=some a) (h':ρ n'=some a) (hs:ag so=false):n=n':=by
 obtain ⟨b,o,g1,g2,g3,_⟩:=S.hp n so e
 obtain ⟨b',o',g1',g2',g3',_⟩:=S.hp n' so' e'
 rw [h] at g1; cases g1
 rw [h'] at g1'; cases g1'
 rw [g2] at g2'; cases g2'
 exact S.inj n n' so so' a e e' h h' hs (Qb g3 g3' hs)
theorem SR.change (S:SR P ν hG fz L ρ σ s) {h':Heap} {t:Nat} {n:Nat} {so so':SO} {a:Addr} {o':Obj} (e:σ.hp.get n=some so) (ha:ρ n=some a) (ho:h'.get? a=some o') (hr:OR P ν ρ so' o')
 (hs:Heap.SameBut a s.heap h') (hm:ag so=false:=by rfl) (hm':ag so'=false:=by rfl):SR P ν hG fz L ρ { σ with hp:=σ.hp.put n so' } { s with heap:=h',toks:=t }:=by
 have hlt:=Hp.Em e
 obtain ⟨a₁,o₁,h1,h2,h3,h4,h5⟩:=S.hp n so e
 rw [ha] at h1; cases h1
 refine ⟨λb o e=>?_,S.fc,λb o e=>(hs.2 b (λq=>by subst q; exact h5 hm _ (S.gd _ _ e))).trans (S.gk b o e),S.gd,?_,S.Lf,λn' so₂ e'=>?_,λn₁ n₂ s₁ s₂ b e₁ e₂ r₁ r₂ k₁ k₂=>?_,S.dom⟩
 ·exact (S.fzk b o e).mono λo' z=>(hs.2 b (λq=>by subst q; exact h5 hm _ e)).trans z
 ·obtain ⟨m,hm,hv⟩:=S.loc
  exact ⟨m,hm.sameBut hs (Ne.symm h4),hv⟩
 ·refine Hp.nD hlt e' (λq q2=>?_) λq e'=>?_
  ·rw [q,q2]
   exact ⟨a,o',ha,ho,hr,h4,λ_=>h5 hm⟩
  ·obtain ⟨b,ob,g1,g2,g3,g4,g5⟩:=S.hp n' so₂ e'
   have:b≠a:=λz=>q ((S.Tn e e' ha (z▸g1) hm).symm)
   exact ⟨b,ob,g1,(hs.2 b this).trans g2,g3,g4,g5⟩
 ·have old:∀ k sk,(σ.hp.put n so').get k=some sk→ag sk=false→∃ sk',σ.hp.get k=some sk'∧ag sk'=false:=λk sk q hk=>Hp.nD hlt q (λz _=>⟨so,z▸e,hm⟩) λ_ q=>⟨_,q,hk⟩
  obtain ⟨_,e₁,w₁⟩:=old _ _ e₁ k₁
  obtain ⟨_,e₂,w₂⟩:=old _ _ e₂ k₂
  exact S.inj _ _ _ _ b e₁ e₂ r₁ r₂ w₁ w₂
noncomputable def bA (ρ:Nm) (n:Nat) (a:Addr):Nm:=λk=>if k=n then some a else ρ k
theorem cp {ρ:Nm} {n:Nat} {a:Addr}:bA ρ n a n=some a:=if_pos rfl
theorem fB {ρ:Nm} {n m:Nat} {a:Addr} (h:m≠n):bA ρ n a m=ρ m:=if_neg h
theorem SR.ext (S:SR P ν hG fz L ρ σ s) (a:Addr):Ext ρ (bA ρ σ.nx a):=λn b e=>by
 have:=S.dom n b e
 exact (if_neg λw=>Nat.lt_irrefl _ (w▸this)).trans e
theorem SR.alloc (S:SR P ν hG fz L ρ σ s) {h':Heap} {t:Nat} {so:SO} {a:Addr} {o:Obj} (hx:σ.nx<1024) (hn:s.heap.get? a=none) (ha:h'.get? a=some o) (k:∀ b o,s.heap.get? b=some o→h'.get? b=some o)
 (hr:OR P ν (bA ρ σ.nx a) so o):SR P ν hG fz L (bA ρ σ.nx a) { σ with hp:=σ.hp.put σ.nx so,nx:=σ.nx+1 } { s with heap:=h',toks:=t }:=by
 have E:=S.ext a
 have nn:bA ρ σ.nx a σ.nx=some a:=if_pos rfl
 have fresh:∀ b o,s.heap.get? b=some o→b≠a:=λb o e q=>by subst q; rw [hn] at e; cases e
 refine ⟨λb o e=>(S.fzk b o e).mono (k _),S.fc,λb o e=>k _ _ (S.gk b o e),S.gd,?_,S.Lf,λn so₂ e=>?_,λn₁ n₂ s₁ s₂ b e₁ e₂ r₁ r₂ k₁ k₂=>?_,λn b e=>?_⟩
 ·obtain ⟨m,hm,hv⟩:=S.loc
  exact ⟨m,hm.keeps k,λx sv e=>let ⟨v,h1,h2⟩:=hv x sv e; ⟨v,h1,h2.mono E⟩⟩
 ·refine Hp.nD hx e (λq q2=>?_) λq e=>?_
  ·subst q q2
   obtain ⟨m,⟨oL,_,_,hoL,_⟩,_⟩:=S.loc
   exact ⟨a,o,nn,ha,hr,Ne.symm (fresh _ _ hoL),λ_ o' e=>let ⟨o2,z⟩:=(S.fzk a o' e).at; fresh a o2 z rfl⟩
  ·obtain ⟨b,ob,g1,g2,g3,g4,g5⟩:=S.hp n so₂ e
   exact ⟨b,ob,E _ _ g1,k _ _ g2,g3.mono E,g4,g5⟩
 ·have no:∀ {n so₂},σ.hp.get n=some so₂→bA ρ σ.nx a n≠some a:=λe r=>by
   obtain ⟨b,ob,g1,g2,_⟩:=S.hp _ _ e
   rw [E _ _ g1] at r
   exact fresh _ _ g2 (aD r)
  refine Hp.nD hx e₁ (λq₁ _=>Hp.nD hx e₂ (λq₂ _=>q₁.trans q₂.symm) λ_ e₂=>?_) λ_ e₁=>Hp.nD hx e₂ (λq₂ _=>?_) λ_ e₂=>?_
  ·rw [q₁,nn] at r₁
   exact absurd (r₂.trans r₁.symm) (no e₂)
  ·rw [q₂,nn] at r₂
   exact absurd (r₁.trans r₂.symm) (no e₁)
  ·obtain ⟨b₁,_,g1,_⟩:=S.hp n₁ s₁ e₁
   obtain ⟨b₂,_,g2,_⟩:=S.hp n₂ s₂ e₂
   exact S.inj _ _ _ _ _ e₁ e₂ (g1.trans ((E _ _ g1).symm.trans r₁)) (g2.trans ((E _ _ g2).symm.trans r₂)) k₁ k₂
 ·unfold bA at e
  by_cases q:n=σ.nx
  ·exact q▸Nat.lt_succ_self _
  ·rw [if_neg q] at e
   exact Nat.lt_succ_of_lt (S.dom n b e)
end
def ob {α β:Type} (o:Option α) (f:α→Option β):Option β:=Option.rec (motive:=λ_=>Option β) none f o
theorem aS {α β:Type} {o:Option α} {f:α→Option β} {y:β} {C:Prop} (e:ob o f=some y) (k:∀ x,o=some x→f x=some y→C):C:=by
 cases o with
 | none=>exact nomatch e
 | some x=>exact k x rfl e
@[elab_as_elim] theorem memC {α:Type} {P:α→Prop} {p q:α} {r:List α} (h:p∈q::r) (h1:P q) (h2:p∈r→P p):P p:=by
 rcases aM h with e | h
 ·rw [e]; exact h1
 ·exact h2 h
theorem fY {α:Type} {C:Prop} {p q:α} {r:List α} (h:p∈q::r) (h1:p=q→C) (h2:p∈r→C):C:=(aM h).elim h1 h2
theorem ZR {P:Prop} (h:∀ G:Prop,(P→G)→G):P:=h P id
theorem nS {α:Type} {a:α} {C:Prop} (h:(none:Option α)=some a):C:=nomatch h
def gL (o:Option SO):Option (List SV):=Option.rec (motive:=λ_=>Option (List SV)) none (λo=>SO.rec (motive:=λ_=>Option (List SV)) (λ_ _=>none) (λ_=>none) (λxs=>some xs) (λ_=>none) (λ_=>none) none (λ_=>none) o) o
def gT (o:Option SO):Option (List SV):=Option.rec (motive:=λ_=>Option (List SV)) none (λo=>SO.rec (motive:=λ_=>Option (List SV)) (λ_ _=>none) (λ_=>none) (λ_=>none) (λxs=>some xs) (λ_=>none) none (λ_=>none) o) o
def gD (o:Option SO):Option (List (Nat×SV)):=Option.rec (motive:=λ_=>Option (List (Nat×SV))) none (λo=>SO.rec (motive:=λ_=>Option (List (Nat×SV))) (λ_ _=>none) (λes=>some es) (λ_=>none) (λ_=>none) (λ_=>none) none (λ_=>none) o) o
def gI (o:Option SO):Option (Nat×Nat):=Option.rec (motive:=λ_=>Option (Nat×Nat)) none (λo=>SO.rec (motive:=λ_=>Option (Nat×Nat)) (λC d=>some (C,d)) (λ_=>none) (λ_=>none) (λ_=>none) (λ_=>none) none (λ_=>none) o) o
def gC (o:Option SO):Option (Option SV):=Option.rec (motive:=λ_=>Option (Option SV)) none (λo=>SO.rec (motive:=λ_=>Option (Option SV)) (λ_ _=>none) (λ_=>none) (λ_=>none) (λ_=>none) (λ_=>none) none (λv=>some v) o) o
theorem To {o:Option SO} {v:Option SV} (h:gC o=some v):o=some (.cell v):=by
 cases o with
 | none=>exact nS h
 | some o=>cases o<;>first | exact nS h | exact congrArg (λx=>some (SO.cell x)) (aD h)
theorem jG {o:Option SO} {xs:List SV} (h:gL o=some xs):o=some (.list xs):=by
 cases o with
 | none=>exact nS h
 | some o=>cases o<;>first | exact nS h | exact congrArg (λx=>some (SO.list x)) (aD h)
theorem I0 {o:Option SO} {xs:List SV} (h:gT o=some xs):o=some (.tup xs):=by
 cases o with
 | none=>exact nS h
 | some o=>cases o<;>first | exact nS h | exact congrArg (λx=>some (SO.tup x)) (aD h)
theorem sJ {o:Option SO} {xs:List (Nat×SV)} (h:gD o=some xs):o=some (.dict xs):=by
 cases o with
 | none=>exact nS h
 | some o=>cases o<;>first | exact nS h | exact congrArg (λx=>some (SO.dict x)) (aD h)
theorem ZS {o:Option SO} {p:Nat×Nat} (h:gI o=some p):o=some (.inst p.1 p.2):=by
 cases o with
 | none=>exact nS h
 | some o=>cases o<;>first | exact nS h | exact congrArg (λx:Nat×Nat=>some (SO.inst x.1 x.2)) (aD h)
theorem ZT {a b:Nat} (n:a≠b):Nat.beq a b=false:=by
 cases h:Nat.beq a b with
 | false=>rfl
 | true=>exact absurd (ar h) n
theorem aw {α:Type} {b:Bool} {o:Option α} {y:α} {C:Prop} (e:cond b o none=some y) (k:b=true→o=some y→C):C:=by
 cases b with
 | false=>exact nS e
 | true=>exact k rfl e
theorem dW {a b:Bool} {C:Prop} (e:(a&&b)=true) (k:a=true→b=true→C):C:=by
 cases a with
 | false=>exact nomatch e
 | true=>exact k rfl e
def iX {α β:Type} (o:Option α) (f:α→β) (d:β):β:=Option.rec (motive:=λ_=>β) d f o
theorem eM {α β:Type} {p:β→Prop} {o:Option α} {f:α→β} {d:β} (h:∀ a,o=some a→p (f a)) (hd:p d):p (iX o f d):=by
 cases o with
 | none=>exact hd
 | some a=>exact h a rfl
def I1 {α:Type} (o:Option SO) (f:List SV→Option α):Option α:=iX (gL o) f (ob (gT o) f)
theorem Eo {α:Type} {o:Option SO} {f:List SV→Option α} {y:α} {C:Prop} (e:I1 o f=some y) (k1:∀ xs,o=some (.list xs)→f xs=some y→C) (k2:∀ xs,o=some (.tup xs)→f xs=some y→C):C:=by
 unfold I1 at e
 cases q:gL o with
 | some xs=>rw [q] at e; exact k1 xs (jG q) e
 | none=>rw [q] at e; exact aS (o:=gT o) e λxs q e=>k2 xs (I0 q) e
end Mine
end
noncomputable section
open PySem PySem.W PyProof.Rows
namespace Mine
variable (P:Params)
theorem qT {α:Type} {M:Model} {A:Around} {m:Sem α} {Q:α→Shared→Prop} {E:Value→Shared→Prop} {s:Shared} (h:∀ (Q':α→Shared→Prop) (E':Value→Shared→Prop),(∀ v s,Q v s→Q' v s)→wpAny M A m Q' E' s):wpAny M A m Q E s:=h Q E λ_ _ h=>h
noncomputable def qD:Value→Shared→Prop:=λ_ _=>False
noncomputable def Tp (M:Model) (A:Around) (env:Env) (target:Expr) (it:Value) (body:List Stmt) (again done:Shared→Prop):Option Value→Shared→Prop:=λr s1=>match r with
 | none=>done s1
 | some v=>wpAny M A (letOwnedTupleGo target it v) (λ_ s1'=>wpAny M A (assign target env v) (λ_ s2=>wpAny M A (execs body env) (λf s3=>f=Flow.next∧again s3) qD s2) qD s1') qD s1
noncomputable def nE (J:Nat→Shared→Prop) (n:Nat) (s:Shared):Prop:=∃ m,m<n∧J m s
theorem forR {prog:Program} {w:World} {A:Around} {env:Env} {s:Shared} {target:Expr} {it:Value} {body:List Stmt} {Q:Flow→Shared→Prop} {E:Value→Shared→Prop} (J:Nat→Shared→Prop)
 (turn:∀ n s,J n s→wpAny (model prog w) A (pyNext it) (Tp (model prog w) A env target it body (nE J n) (Q .next)) qD s) (n:Nat) (h:J n s) :
 codeAny (model prog w) A (.forLoop target it body [] env) (λr s'=>match r with | .ok f=>Q f s' | .error e=>cameBackBy (model prog w) A env E e s') s:=by
 refine codeAny_forLoop_any J (λn s hI=>bI (turn n s hI) (λr s1 h1=>?_) λ_ _ (h:False)=>h.elim) n h
 cases r with
 | none=>exact wpAny_execs_nil h1
 | some v =>
  have h1:wpAny (model prog w) A (letOwnedTupleGo target it v) (λ_ s1'=>wpAny (model prog w) A (assign target env v) (λ_ s2=>wpAny (model prog w) A (execs body env) (λf s3=>f=Flow.next∧nE J n s3) qD s2) qD s1') qD s1:=h1
  exact bI h1 (λ_ s2 h=>bI h (λ_ s3 h=>bI h (λf s4 h=>by obtain ⟨rfl,h⟩:=h; exact h) λ_ _ (h:False)=>h.elim) λ_ _ (h:False)=>h.elim) λ_ _ (h:False)=>h.elim
noncomputable def Lg (again:Shared→Prop) (R:Result→Shared→Prop):Flow→Shared→Prop:=λf s3=>match f with
 | .next | .cont=>again s3
 | .brk=>R (.ok .next) s3
 | .ret v=>R (.ok (.ret v)) s3
noncomputable def Tq (M:Model) (A:Around) (env:Env) (target:Expr) (it:Value) (body:List Stmt) (again:Shared→Prop) (R:Result→Shared→Prop):Option Value→Shared→Prop:=λr s1=>match r with
 | none=>R (.ok .next) s1
 | some v=>wpAny M A (letOwnedTupleGo target it v) (λ_ s1'=>wpAny M A (assign target env v) (λ_ s2=>wpAny M A (execs body env) (Lg again R) qD s2) qD s1') qD s1
theorem ZU {prog:Program} {w:World} {A:Around} {env:Env} {s:Shared} {target:Expr} {it:Value} {body:List Stmt} {R:Result→Shared→Prop} (J:Nat→Shared→Prop)
 (turn:∀ n s,J n s→wpAny (model prog w) A (pyNext it) (Tq (model prog w) A env target it body (nE J n) R) qD s) (n:Nat) (h:J n s):codeAny (model prog w) A (.forLoop target it body [] env) R s:=by
 refine codeAny_forLoop_any J (λn s hI=>bI (turn n s hI) (λr s1 h1=>?_) λ_ _ (h:False)=>h.elim) n h
 cases r with
 | none=>exact wpAny_execs_nil h1
 | some v =>
  have h1:wpAny (model prog w) A (letOwnedTupleGo target it v) (λ_ s1'=>wpAny (model prog w) A (assign target env v) (λ_ s2=>wpAny (model prog w) A (execs body env) (Lg (nE J n) R) qD s2) qD s1') qD s1:=h1
  exact bI h1 (λ_ s2 h=>bI h (λ_ s3 h=>bI h (λf s4 h=>by cases f<;>exact h) λ_ _ (h:False)=>h.elim) λ_ _ (h:False)=>h.elim) λ_ _ (h:False)=>h.elim
section
variable {P:Params} {ν:Nat→Int} {ρ:Nm}
theorem dk.eN {p:Nat×SV} {r:List (Nat×SV)} {es:List DictEntry} (h:dk P ν ρ (p::r) es):∃ e es',es=e::es'∧((∃ k,e.key=.str (dec p.1) k)∧e.hash=PyData.keyHash P (dec p.1)∧VR ν ρ p.2 e.val)∧dk P ν ρ r es':=by
 cases es with
 | nil=>exact False.elim h
 | cons e t=>exact ⟨e,t,rfl,h.1,h.2⟩
theorem dk.nF {es:List DictEntry} (h:dk P ν ρ [] es):es=[]:=by
 cases es with
 | nil=>rfl
 | cons e t=>exact False.elim h
theorem bX.eN {x:SV} {r:List SV} {vs:List Value} (h:bX ν ρ (x::r) vs):∃ v t,vs=v::t∧VR ν ρ x v∧bX ν ρ r t:=by
 cases vs with
 | nil=>exact False.elim h
 | cons v t=>exact ⟨v,t,rfl,h.1,h.2⟩
theorem bX.nF {vs:List Value} (h:bX ν ρ [] vs):vs=[]:=by
 cases vs with
 | nil=>rfl
 | cons v t=>exact False.elim h
theorem OR.Lh {ν':Nat→Int} {ρ':Nm} {a b:Nat} {x y x' y':SV} {o:Obj} (q:OR P ν ρ (.dict [(a,x),(b,y)]) o) (h1:∀ v,VR ν ρ x v→VR ν' ρ' x' v) (h2:∀ v,VR ν ρ y v→VR ν' ρ' y' v):OR P ν' ρ' (.dict [(a,x'),(b,y')]) o:=by
 obtain ⟨es,rfl,hes⟩:=q
 obtain ⟨e1,t,rfl,g1,hes⟩:=hes.eN
 obtain ⟨e2,t,rfl,g2,hes⟩:=hes.eN
 obtain rfl:=hes.nF
 exact ⟨[e1,e2],rfl,⟨g1.1,g1.2.1,h1 _ g1.2.2⟩,⟨g2.1,g2.2.1,h2 _ g2.2.2⟩,trivial⟩
@[elab_as_elim] theorem bX.un {motive:List Value→Prop} {x:SV} {r:List SV} {vs:List Value} (h:bX ν ρ (x::r) vs) (k:∀ v t,VR ν ρ x v→bX ν ρ r t→motive (v::t)):motive vs:=by
 cases vs with
 | nil=>exact False.elim h
 | cons v t=>exact k v t h.1 h.2
@[elab_as_elim] theorem bX.nl {motive:List Value→Prop} {vs:List Value} (h:bX ν ρ [] vs) (k:motive []):motive vs:=by
 cases vs with
 | nil=>exact k
 | cons v t=>exact False.elim h
@[elab_as_elim] theorem dk.un {motive:List DictEntry→Prop} {x:Nat×SV} {r:List (Nat×SV)} {vs:List DictEntry} (h:dk P ν ρ (x::r) vs) (k:∀ v t,((∃ k,v.key=.str (dec x.1) k)∧v.hash=PyData.keyHash P (dec x.1)∧VR ν ρ x.2 v.val)→dk P ν ρ r t→motive (v::t)):motive vs:=by
 cases vs with
 | nil=>exact False.elim h
 | cons v t=>exact k v t h.1 h.2
end
end Mine
end
noncomputable section
open PySem PySem.W PyProof.Rows PySem.Calls
namespace Mine
variable (P:Params)
noncomputable abbrev RM (α:Type):=SS→Option (List (α×SS))
namespace RM
noncomputable def ret {α:Type} (a:α):RM α:=λσ=>some [(a,σ)]
noncomputable def bad {α:Type}:RM α:=λ_=>none
def app {β:Type} (x y:List β):List β:=List.rec (motive:=λ_=>List β) y (λa _ ih=>a::ih) x
theorem c8 {β:Type}:∀ x y:List β,app x y=x++y
 | [],_=>rfl
 | a::x,y=>congrArg (a::·) (c8 x y)
def go {α β:Type} (k:α→RM β) (l:List (α×SS)):Option (List (β×SS)):=List.rec (motive:=λ_=>Option (List (β×SS))) (some [])
 (λp _ ih=>Option.rec (motive:=λ_=>Option (List (β×SS))) none (λx=>Option.rec (motive:=λ_=>Option (List (β×SS))) none (λy=>some (app x y)) ih) (k p.1 p.2)) l
def az {α β:Type} (m:RM α) (k:α→RM β):RM β:=λσ=>Option.rec (motive:=λ_=>Option (List (β×SS))) none
 (λl=>List.rec (motive:=λ_=>Option (List (β×SS))) (some []) (λp r _=>List.rec (motive:=λ_=>Option (List (β×SS))) (k p.1 p.2) (λ_ _ _=>go k l) r) l) (m σ)
noncomputable def opt {α:Type}:Option α→RM α
 | none=>bad
 | some a=>ret a
noncomputable def guard (b:Bool):RM Unit:=cond b (ret ()) bad
inductive Go1 {α β:Type} (k:α→RM β) (p:α×SS) (outs:List (β×SS)):Prop
 | mk (o:List (β×SS)) (h:k p.1 p.2=some o) (hs:∀ q∈o,q∈outs):Go1 k p outs
noncomputable def Gos {α β:Type} (k:α→RM β) (l:List (α×SS)) (outs:List (β×SS)):Prop:=∀ p∈l,Go1 k p outs
theorem Qc {α β:Type} {k:α→RM β} {l:List (α×SS)}:∀ {outs:List (β×SS)},go k l=some outs→Gos k l outs:=by
 induction l with
 | nil=>exact λ_ _ h=>nomatch h
 | cons p r ih =>
  refine λ{outs} h=>aS (o:=k p.1 p.2) h λx h1 h=>aS (o:=go k r) h λy h2 h q hq=>?_
  rw [← aD h,c8]
  exact memC hq ⟨x,h1,λz hz=>List.mem_append.mpr (.inl hz)⟩ λhq=>let ⟨o,ho,hs⟩:=ih h2 q hq; ⟨o,ho,λz hz=>List.mem_append.mpr (.inr (hs z hz))⟩
theorem aO {α β:Type} {m:RM α} {k:α→RM β} {σ:SS} {outs:List (β×SS)} (h:az m k σ=some outs) :
 ∃ l,m σ=some l∧Gos k l outs:=by
 refine aS (o:=m σ) h λl h1 h=>⟨l,h1,?_⟩
 cases l with
 | nil=>exact λp hp=>nomatch hp
 | cons p r =>
  cases r with
  | nil=>exact λq hq=>by rw [aj hq]; exact ⟨outs,h,λz hz=>hz⟩
  | cons q r=>exact Qc h
end RM
structure Cx where
 prog:Program
 w:World
 ν:Nat→Int
 νb:∀ n,n<100→-9≤ν n∧ν n≤9
 νs:ν 201=ν 200+1
 hG:Heap
 A:Around
 fz:Addr→Obj→Prop
 L:Addr
noncomputable abbrev Cx.M (c:Cx):Model:=model c.prog c.w
noncomputable abbrev Cx.SR (c:Cx) (ρ:Nm) (σ:SS) (s:Shared):Prop:=Mine.SR c.w.params c.ν c.hG c.fz c.L ρ σ s
noncomputable def Kq (c:Cx) (ρ:Nm) {α β:Type} (outs:List (α×SS)) (R:Nm→α→β→Prop) (s:Shared) (Q:β→Shared→Prop):Prop :=
 ∀ x σ' ρ' s' v,(x,σ')∈outs→Ext ρ ρ'→c.SR ρ' σ' s'→R ρ' x v→aT s s'→Q v s'
noncomputable def aJ (c:Cx) (ρ₀:Nm) {α β:Type} (m:RM α) (t:Sem β) (R:Nm→α→β→Prop):Prop :=
 ∀ σ outs,m σ=some outs→∀ ρ s,Ext ρ₀ ρ→c.SR ρ σ s→∀ (Q:β→Shared→Prop) (E:Value→Shared→Prop),
  Kq c ρ outs R s Q→wpAny c.M c.A t Q E s
section
variable {c:Cx} {ρ₀:Nm} {α β γ δ:Type}
theorem aJ.ret {a:α} {v:β} {R:Nm→α→β→Prop} (h:∀ ρ,Ext ρ₀ ρ→R ρ a v):aJ c ρ₀ (RM.ret a) (pure v) R:=by
 intro σ outs e ρ s x S Q E hQ
 cases e
 exact aP (hQ a σ ρ s v (.head _) (.refl _) S (h ρ x) (.refl _))
theorem aJ.bad {t:Sem β} {R:Nm→α→β→Prop}:aJ c ρ₀ (RM.bad:RM α) t R:=λ_ _ e=>nomatch e
theorem aJ.bind {m:RM α} {t:Sem β} {R:Nm→α→β→Prop} {k:α→RM γ} {f:β→Sem δ} {R':Nm→γ→δ→Prop} (h:aJ c ρ₀ m t R)
 (hk:∀ ρ₁ x v,Ext ρ₀ ρ₁→R ρ₁ x v→aJ c ρ₁ (k x) (f v) R'):aJ c ρ₀ (RM.az m k) (t >>= f) R':=by
 intro σ outs e ρ s x S Q E hQ
 obtain ⟨l,hl,hg⟩:=RM.aO e
 refine aF (h σ l hl ρ s x S _ E λa σ' ρ' s' v hm x' S' r sm=>?_)
 obtain ⟨o,ho,hs⟩:=hg (a,σ') hm
 exact hk ρ' a v (x.trans x') r σ' o ho ρ' s' (.refl _) S' Q E λy σ'' ρ'' s'' u hm' x'' S'' r' sm'=>hQ y σ'' ρ'' s'' u (hs _ hm') (x'.trans x'') S'' r' (sm.trans sm')
theorem aJ.ZV {m:RM α} {t:Sem β} {t':Sem δ} {R:Nm→α→β→Prop} {R':Nm→α→δ→Prop} (h:aJ c ρ₀ m t R) (f:β→δ) (hR:∀ ρ x v,R ρ x v→R' ρ x (f v))
 (hw:∀ (Q:δ→Shared→Prop) E s,wpAny c.M c.A t (λv s'=>Q (f v) s') E s→wpAny c.M c.A t' Q E s):aJ c ρ₀ m t' R':=by
 intro σ outs e ρ s x S Q E hQ
 exact hw Q E s (h σ outs e ρ s x S _ E λy σ' ρ' s' v hm x' S' r sm=>hQ y σ' ρ' s' (f v) hm x' S' (hR _ _ _ r) sm)
theorem aJ.to {m:RM α} {t t':Sem β} {R:Nm→α→β→Prop} (h:aJ c ρ₀ m t R) (hw:∀ (Q:β→Shared→Prop) E s,wpAny c.M c.A t Q E s→wpAny c.M c.A t' Q E s):aJ c ρ₀ m t' R :=
 h.ZV id (λ_ _ _ r=>r) hw
theorem aJ.rel {m:RM α} {t:Sem β} {R R':Nm→α→β→Prop} (h:aJ c ρ₀ m t R) (hR:∀ ρ x v,R ρ x v→R' ρ x v):aJ c ρ₀ m t R':=h.ZV id hR λ_ _ _ h=>h
theorem aJ.holding {m:RM α} {t:Sem β} {R:Nm→α→β→Prop} {vs:List Value} (h:aJ c ρ₀ m t R):aJ c ρ₀ m (holding vs t) R:=h.to λ_ _ _ h=>cL h
theorem aJ.standAt {m:RM α} {t:Sem β} {R:Nm→α→β→Prop} {p:Pos} (h:aJ c ρ₀ m t R):aJ c ρ₀ m (standAt p >>= λ_=>t) R:=h.to λ_ _ _ h=>aF (wpAny_standAt h)
theorem aJ.operate {m:RM α} {t:Sem Value} {R:Nm→α→Value→Prop} {vs:List Value} (h:aJ c ρ₀ m t R):aJ c ρ₀ m (operate vs t) R:=h.to λ_ _ _ h=>wpAny_operateT h
theorem aJ.weak {m:RM α} {t:Sem β} {R:Nm→α→β→Prop} {ρ₁:Nm} (h:aJ c ρ₀ m t R) (x:Ext ρ₀ ρ₁):aJ c ρ₁ m t R:=λσ outs e ρ s y S=>h σ outs e ρ s (x.trans y) S
theorem aJ.opt {o:Option α} {t:Sem β} {R:Nm→α→β→Prop} (h:∀ a,o=some a→aJ c ρ₀ (RM.ret a) t R):aJ c ρ₀ (RM.opt o) t R:=by
 cases o with
 | none=>exact aJ.bad
 | some a=>exact h a rfl
theorem aJ.guard {b:Bool} {k:RM α} {t:Sem β} {R:Nm→α→β→Prop} (h:b=true→aJ c ρ₀ k t R):aJ c ρ₀ (cond b k RM.bad) t R:=by
 cases b with
 | false=>exact aJ.bad
 | true=>exact h rfl
theorem aJ.yD {b:Bool} {k:RM α} {t:Sem β} {R:Nm→α→β→Prop} (h:b=false→aJ c ρ₀ k t R):aJ c ρ₀ (cond b RM.bad k) t R:=by
 cases b with
 | true=>exact aJ.bad
 | false=>exact h rfl
theorem aJ.one {m:RM α} {t:Sem β} {R:Nm→α→β→Prop}
 (h:∀ σ outs,m σ=some outs→∃ a σ',outs=[(a,σ')]∧∀ ρ s,Ext ρ₀ ρ→c.SR ρ σ s→∀ (Q:β→Shared→Prop) (E:Value→Shared→Prop),
  (∀ ρ' s' v,Ext ρ ρ'→c.SR ρ' σ' s'→R ρ' a v→aT s s'→Q v s')→wpAny c.M c.A t Q E s):aJ c ρ₀ m t R:=by
 intro σ outs e ρ s x S Q E hQ
 obtain ⟨a,σ',rfl,hw⟩:=h σ outs e
 exact hw ρ s x S Q E λρ' s' v x' S' r sm=>hQ a σ' ρ' s' v (.head _) x' S' r sm
end
structure CE where
 names:List (Nat×NameKind)
 cells:List (Nat×Nat)
structure aG (c:Cx) (ρ:Nm) (ce:CE) (env:Env):Prop where
 kind:env.scope.kind=.function
 names:∀ x,env.kindOf (dec x)=lk ce.names x
 L:env.locals=c.L
 g:env.globals=mainGlobals
 b:env.builtins=builtinsNs
 cells:∀ x k,lk ce.cells x=some k→∃ a,env.cells.lookup (dec x)=some a∧ρ k=some a
theorem aG.mono {c:Cx} {ρ ρ':Nm} {ce:CE} {env:Env} (h:aG c ρ ce env) (x:Ext ρ ρ'):aG c ρ' ce env :=
 ⟨h.kind,h.names,h.L,h.g,h.b,λy k e=>let ⟨a,h1,h2⟩:=h.cells y k e; ⟨a,h1,x _ _ h2⟩⟩
def Ep (ce:CE) (x:Nat) (σ:SS):Option SV:=ob (lk ce.cells x) λk=>ob (gC (σ.hp.get k)) λo=>o
def nmV (glob:List (Nat×SV)) (ce:CE) (x:Nat) (σ:SS) (k:NameKind):Option SV:=NameKind.rec (motive:=λ_=>Option SV) (lk σ.loc x) (Ep ce x σ) (Ep ce x σ) none (lk glob x) k
def Er (glob:List (Nat×SV)) (ce:CE) (x:Nat):RM SV:=λσ=>ob (ob (lk ce.names x) (nmV glob ce x σ)) λv=>some [(v,σ)]
noncomputable def yE (mg mb:Str→Option Value) (glob:List (Nat×SV)):Prop :=
 ∀ x sv,lk glob x=some sv→∃ v,(∀ ν ρ,VR ν ρ sv v)∧(mg (dec x)=some v∨(mg (dec x)=none∧mb (dec x)=some v))
section
variable {c:Cx} {ρ₀:Nm} {K:Frag} {mg mb:Str→Option Value}
theorem uG {ce:CE} {x:Nat} {env:Env} {σ:SS} {v:SV} {ρ:Nm} {s:Shared} (eo:aG c ρ₀ ce env) (x':Ext ρ₀ ρ) (S:c.SR ρ σ s) (e:Ep ce x σ=some v):∃ a u,env.cells.lookup (dec x)=some a∧s.heap.IsCell a (some u)∧VR c.ν ρ v u:=by
 refine aS e λk q2 e=>aS e λo q3 e=>?_
 subst e
 obtain ⟨a,h1,h2⟩:=eo.cells x k q2
 obtain ⟨a',o,g1,g2,g3,_⟩:=S.hp k _ (To q3)
 rw [x' _ _ h2] at g1
 obtain ⟨u,gd,hu⟩:=g3
 exact ⟨a,u,h1,⟨o,aD g1▸g2,gd⟩,hu⟩
theorem uH {glob:List (Nat×SV)} {ce:CE} {x:Nat} {env:Env} {pos:Pos} (G:Gd K mg mb c.hG) (hg:yE mg mb glob) (eo:aG c ρ₀ ce env)
 (hd:(dec x == ("__debug__" : Str))=false) (hcd:(dec x == ("__classdict__" : Str))=false):aJ c ρ₀ (Er glob ce x) (eval (.Name (dec x) pos) env) (VR c.ν):=by
 refine aJ.one λσ outs e=>aS e λv e1 e2=>⟨v,σ,(aD e2).symm,λρ s x' S Q E hQ=>aS e1 λk q e=>?_⟩
 have hk:=(eo.names x).trans q
 replace hQ:∀ u,VR c.ν ρ v u→Q u s:=λu h=>hQ ρ s u (.refl _) S h (.refl _)
 cases k with
 | «local» =>
  obtain ⟨m,hm,hv⟩:=S.loc
  obtain ⟨u,h1,h2⟩:=hv x v e
  exact wpAny_Name (wpAny_loadName_local eo.kind hk (eo.L▸hm) h1 (hQ u h2)) hd
 | cell =>
  obtain ⟨a,u,h1,h2,h3⟩:=uG eo x' S e
  exact wpAny_Name (wpAny_loadName_cell eo.kind hk h1 h2 (hQ u h3)) hd
 | free =>
  obtain ⟨a,u,h1,h2,h3⟩:=uG eo x' S e
  exact wpAny_Name (wpAny_loadName_free eo.kind hk h1 h2 (hQ u h3) hcd) hd
 | globalExplicit=>exact nS e
 | globalImplicit =>
  obtain ⟨u,hu,hm⟩:=hg x v e
  refine Name_function_global eo.kind hk ?_ hd
  have gg:s.heap.Ns env.globals mg:=by rw [eo.g]; exact G.g.keeps S.br
  have gb:s.heap.Ns env.builtins mb:=by rw [eo.b]; exact G.b.keeps S.br
  rcases hm with hm | ⟨hm,hm'⟩
  ·exact loadGlobal_global gg hm (hQ u (hu _ _))
  ·exact loadGlobal_builtin gg hm gb hm' (hQ u (hu _ _))
end
end Mine
end
noncomputable section
open PySem PySem.W PyProof.Rows PySem.Calls PySem.SeqAt
namespace Mine
variable (P:Params)
def Y3 {α:Type} (b:SV) (x d:α):α:=SV.rec (motive:=λ_=>α) d (λ_=>d) (λ_=>d) (λ_=>d) (λ_=>d) (λ_=>d) (λ_=>d) (λ_=>d) x b
def qU {α:Type} (b:SV) (f:IT→α) (d:α):α:=SV.rec (motive:=λ_=>α) d (λ_=>d) f (λ_=>d) (λ_=>d) (λ_=>d) (λ_=>d) (λ_=>d) d b
def qC {α:Type} (b:SV) (f:Nat→α) (d:α):α:=SV.rec (motive:=λ_=>α) d (λ_=>d) (λ_=>d) (λ_=>d) f (λ_=>d) (λ_=>d) (λ_=>d) d b
def Ac {α:Type} (b:SV) (f:Nat→α) (d:α):α:=SV.rec (motive:=λ_=>α) d (λ_=>d) (λ_=>d) f (λ_=>d) (λ_=>d) (λ_=>d) (λ_=>d) d b
def Ts {α:Type} (b:SV) (f:Nat→α) (d:α):α:=SV.rec (motive:=λ_=>α) d (λ_=>d) (λ_=>d) (λ_=>d) (λ_=>d) f (λ_=>d) (λ_=>d) d b
def TY {α:Type} (b:SV) (f:Bool→α) (d:α):α:=SV.rec (motive:=λ_=>α) d f (λ_=>d) (λ_=>d) (λ_=>d) (λ_=>d) (λ_=>d) (λ_=>d) d b
def Li {α:Type} (b:SV) (x d:α):α:=SV.rec (motive:=λ_=>α) x (λ_=>d) (λ_=>d) (λ_=>d) (λ_=>d) (λ_=>d) (λ_=>d) (λ_=>d) d b
def Tt {α:Type} (b:SV) (f:Nat→α) (d:α):α:=SV.rec (motive:=λ_=>α) d (λ_=>d) (λ_=>d) (λ_=>d) (λ_=>d) (λ_=>d) f (λ_=>d) d b
def By {α:Type} (t:IT) (f:Int→α) (d:α):α:=IT.rec (motive:=λ_=>α) f (λ_=>d) t
section
variable {α:Type} {p:α→Prop} {b:SV} {d:α}
theorem Es {x:α} (h:b=.anyN→p x) (hd:p d):p (Y3 b x d):=by cases b<;>first | exact hd | exact h rfl
theorem dm {f:IT→α} (h:∀ t,b=.int t→p (f t)) (hd:p d):p (qU b f d):=by cases b<;>first | exact hd | exact h _ rfl
theorem dG {f:Nat→α} (h:∀ t,b=.ref t→p (f t)) (hd:p d):p (qC b f d):=by cases b<;>first | exact hd | exact h _ rfl
theorem fp {f:Nat→α} (h:∀ t,b=.str t→p (f t)) (hd:p d):p (Ac b f d):=by cases b<;>first | exact hd | exact h _ rfl
theorem Ad {f:Nat→α} (h:∀ t,b=.kref t→p (f t)) (hd:p d):p (Ts b f d):=by cases b<;>first | exact hd | exact h _ rfl
theorem uI {f:Bool→α} (h:∀ t,b=.bool t→p (f t)) (hd:p d):p (TY b f d):=by cases b<;>first | exact hd | exact h _ rfl
theorem qV {x:α} (h:b=.none→p x) (hd:p d):p (Li b x d):=by cases b<;>first | exact hd | exact h rfl
theorem Qd {f:Nat→α} (h:∀ t,b=.ty t→p (f t)) (hd:p d):p (Tt b f d):=by cases b<;>first | exact hd | exact h _ rfl
theorem fq {t:IT} {f:Int→α} (h:∀ i,t=.c i→p (f i)) (hd:p d):p (By t f d):=by cases t<;>first | exact hd | exact h _ rfl
end
noncomputable def RM.look {α:Type} (f:SS→Option α):RM α:=λσ=>match f σ with
 | some a=>some [(a,σ)]
 | none=>none
theorem RM.i2 {α:Type} {f:SS→Option α} {σ:SS} {l:List (α×SS)} {C:Prop} (e:RM.look f σ=some l) (k:∀ a,f σ=some a→l=[(a,σ)]→C):C:=by
 unfold RM.look at e
 cases q:f σ with
 | none=>rw [q] at e; exact nS e
 | some a=>rw [q] at e; exact k a q (aD e).symm
section
variable {c:Cx} {ρ₀:Nm} {α β:Type}
theorem aJ.look {f:SS→Option α} {t:Sem β} {R:Nm→α→β→Prop}
 (h:∀ σ a,f σ=some a→∀ ρ s,Ext ρ₀ ρ→c.SR ρ σ s→∀ (Q:β→Shared→Prop) (E:Value→Shared→Prop),(∀ s' v,c.SR ρ σ s'→R ρ a v→aT s s'→Q v s')→wpAny c.M c.A t Q E s):aJ c ρ₀ (RM.look f) t R:=by
 refine aJ.one λσ outs e=>RM.i2 e λa q e=>⟨a,σ,e,λρ s x S Q E hQ=>h σ a q ρ s x S Q E λs' v S' r sm=>hQ ρ s' v (.refl _) S' r sm⟩
end
noncomputable def small (i:Int):Bool:=decide (i.natAbs<1048576)
noncomputable def sL:Operator→Int→Int→Option Int
 | .Add,a,b=>some (a+b)
 | .Sub,a,b=>some (a - b)
 | .Mult,a,b=>cond (small a) (some (a * b)) none
 | .Mod,a,b=>cond (decide (b=0)) none (some (a.fmod b))
 | .LShift,a,b=>cond (small a&&decide (0≤b)&&decide (b≤64)) (some (a * 2 ^ b.toNat)) none
 | _,_,_=>none
noncomputable def cmpInt:CmpOp→Int→Int→Option Bool
 | .Lt,a,b=>some (decide (a<b))
 | .LtE,a,b=>some (decide (a≤b))
 | .Gt,a,b=>some (decide (b<a))
 | .GtE,a,b=>some (decide (b≤a))
 | .Eq,a,b=>some (decide (a=b))
 | .NotEq,a,b=>some (!decide (a=b))
 | _,_,_=>none
section
variable {prog:Program} {w:World} {A:Around} {E:Value→Shared→Prop} {s:Shared} {Q:Value→Shared→Prop}
theorem nG {a:Int} (h:small a=true):Builtin.Int.intBits a≤64:=by
 have:=of_decide_eq_true h
 exact PySem.intBits_le_64 (by omega) (by omega)
theorem qW {op:Operator} {a b r:Int} {t u:Tok} (e:sL op a b=some r) (h:Q (.int r s.toks) { s with toks:=s.toks+1 }):wpAny (model prog w) A (binaryOp op (.int a t) (.int b u)) Q E s:=by
 cases op<;>first | exact nS e | skip
 ·obtain rfl:=aD e; exact add_int h
 ·obtain rfl:=aD e; exact sub_int' h
 ·replace e:cond (small a) (some (a * b)) none=some r:=e
  cases q:small a with
  | false=>rw [q] at e; exact nS e
  | true=>rw [q] at e; obtain rfl:=aD e; exact mul_int h (PySem.IntMulOk.of_left (nG q))
 ·replace e:cond (decide (b=0)) none (some (a.fmod b))=some r:=e
  by_cases q:b=0
  ·rw [decide_eq_true q] at e; exact nS e
  ·rw [decide_eq_false q] at e; obtain rfl:=aD e; exact mod_int' q h
 ·replace e:cond (small a&&decide (0≤b)&&decide (b≤64)) (some (a * 2 ^ b.toNat)) none=some r:=e
  cases q:(small a&&decide (0≤b)&&decide (b≤64)) with
  | false=>rw [q] at e; exact nS e
  | true =>
   rw [q] at e
   obtain rfl:=aD e
   simp only [Bool.and_eq_true,decide_eq_true_eq,small] at q
   exact lshift_int_small q.1.2 (by omega) (by omega) h
theorem iF {op:CmpOp} {a b:Int} {r:Bool} {t u:Tok} (e:cmpInt op a b=some r) (h:Q (.bool r) s):wpAny (model prog w) A (compareOp op (.int a t) (.int b u)) Q E s:=by
 cases op<;>first | exact nS e | replace e:=aD e
 ·exact eq_int (show Q (.bool (decide (a=b))) s from e▸h)
 ·exact ne_int (show Q (.bool (!decide (a=b))) s from e▸h)
 ·exact lt_int (e▸h)
 ·exact le_int (e▸h)
 ·exact gt_int (e▸h)
 ·exact ge_int (e▸h)
end
def Tu (a b:IT):Option Bool :=
 IT.rec (motive:=λ_=>Option Bool) (λx=>IT.rec (motive:=λ_=>Option Bool) (λy=>some (decide (x=y))) (λ_=>none) b)
  (λx=>IT.rec (motive:=λ_=>Option Bool) (λ_=>none) (λy=>cond (Nat.beq x y) (some true) none) b) a
theorem I2 {ν:Nat→Int} {a b:IT} {r:Bool} (e:Tu a b=some r):(a.ev ν == b.ev ν)=r:=by
 cases a<;>cases b<;>first | exact nS e | skip
 ·exact aD e
 ·rename_i m n
  replace e:cond (Nat.beq m n) (some true) none=some r:=e
  cases q:Nat.beq m n with
  | false=>rw [q] at e; exact nS e
  | true =>
   rw [q] at e
   rw [ar q,← aD e]
   exact beq_self_eq_true _
def allB (f:SV→SV→Option Bool) (xs:List SV):List SV→Option Bool :=
 List.rec (motive:=λ_=>List SV→Option Bool) (λys=>List.rec (motive:=λ_=>Option Bool) (some true) (λ_ _ _=>none) ys)
  (λx _ ih ys=>List.rec (motive:=λ_=>Option Bool) none (λy ys _=>ob (f x y) λa=>ob (ih ys) λb=>some (a&&b)) ys) xs
def Lj (xs:List SV):List SV→Bool :=
 List.rec (motive:=λ_=>List SV→Bool) (λys=>List.rec (motive:=λ_=>Bool) true (λ_ _ _=>false) ys)
  (λ_ _ ih ys=>List.rec (motive:=λ_=>Bool) false (λ_ ys _=>ih ys) ys) xs
theorem Bz {a:List SV}:∀ {b:List SV},Lj a b=decide (a.length=b.length):=by
 induction a with
 | nil=>intro b; cases b<;>rfl
 | cons x a ih =>
  intro b
  cases b with
  | nil=>rfl
  | cons y b=>exact ih.trans (decide_eq_decide.mpr ⟨congrArg (·+1),Nat.succ.inj⟩)
def Qe (f:SV→SV→Option Bool) (H:Hp) (x y:Nat):Option Bool:=ob (gL (H.get x)) λxs=>ob (gL (H.get y)) λys=>cond (Lj xs ys) (allB f xs ys) (some false)
inductive Et (f:SV→SV→Option Bool) (H:Hp) (x y:Nat) (r:Bool):Prop
 | same (xs ys:List SV) (h1:H.get x=some (.list xs)) (h2:H.get y=some (.list ys)) (hl:xs.length=ys.length) (h:allB f xs ys=some r):Et f H x y r
 | diff (xs ys:List SV) (h1:H.get x=some (.list xs)) (h2:H.get y=some (.list ys)) (hl:xs.length≠ys.length) (h:r=false):Et f H x y r
theorem qX {f:SV→SV→Option Bool} {H:Hp} {x y:Nat} {r:Bool} (e:Qe f H x y=some r):Et f H x y r:=by
 refine aS e λxs h1 e=>aS e λys h2 e=>?_
 rw [Bz] at e
 by_cases hl:xs.length=ys.length
 ·rw [decide_eq_true hl] at e
  exact .same xs ys (jG h1) (jG h2) hl e
 ·rw [decide_eq_false hl] at e
  exact .diff xs ys (jG h1) (jG h2) hl (aD e).symm
def Y4 (n:Nat):Hp→SV→SV→Option Bool:=Nat.rec (motive:=λ_=>Hp→SV→SV→Option Bool) (λ_ _ _=>none)
 (λ_ ih H a b=>qU a (λx=>qU b (Tu x) none) (Ac a (λx=>Ac b (λy=>some (Nat.beq x y)) none) (TY a (λx=>TY b (λy=>some (x == y)) none) (Li a (Li b (some true) none)
  (qC a (λx=>qC b (λy=>cond (Nat.beq x y) (some true) (Qe (ih H) H x y)) none) none))))) n
section
variable {P:Params} {ν:Nat→Int} {hG:Heap} {fz:Addr→Obj→Prop} {L:Addr} {ρ:Nm} {σ:SS} {s:Shared}
theorem SR.list (S:SR P ν hG fz L ρ σ s) {n:Nat} {xs:List SV} {a:Addr} (e:σ.hp.get n=some (.list xs)) (ha:ρ n=some a):∃ vs k,s.heap.get? a=some (bF vs k)∧bX ν ρ xs vs:=by
 obtain ⟨b,o,h1,h2,h3,_⟩:=S.hp n _ e
 obtain ⟨vs,k,h3⟩:=h3
 exact ⟨vs,k,by rw [← h3.1,aD (ha.symm.trans h1)]; exact h2,h3.2⟩
theorem SR.tup (S:SR P ν hG fz L ρ σ s) {n:Nat} {xs:List SV} {a:Addr} (e:σ.hp.get n=some (.tup xs)) (ha:ρ n=some a):∃ vs k,s.heap.get? a=some (ej vs k)∧bX ν ρ xs vs:=by
 obtain ⟨b,o,h1,h2,h3,_⟩:=S.hp n _ e
 obtain ⟨vs,k,h3⟩:=h3
 exact ⟨vs,k,by rw [← h3.1,aD (ha.symm.trans h1)]; exact h2,h3.2⟩
theorem ao {h:Heap} {a:Addr} {vs:List Value} {k:Nat} (e:h.get? a=some (bF vs k)):h.IsList a vs.toArray:=⟨_,e,rfl,k,rfl⟩
theorem eO {h:Heap} {a:Addr} {vs:List Value} {k:Nat} (e:h.get? a=some (ej vs k)):h.IsTuple a vs.toArray:=⟨_,e,rfl,k,rfl⟩
noncomputable def ZW (A:Around) (s:Shared) (vs us:List Value) (r:Bool):Prop:=∃ e:Nat→Bool,(∀ j (h1:j<vs.length) (h2:j<us.length),EqAt A s vs[j] us[j] (e j))∧(List.range vs.length).all e=r
theorem Ae {f:SV→SV→Option Bool} {A:Around} {s:Shared} (hf:∀ x y v u b,f x y=some b→VR ν ρ x v→VR ν ρ y u→EqAt A s v u b) {xs:List SV}:∀ {ys:List SV} {vs us:List Value} {r:Bool},allB f xs ys=some r→bX ν ρ xs vs→bX ν ρ ys us→ZW A s vs us r:=by
 induction xs with
 | nil =>
  intro ys vs us r q ha hb
  cases ys with
  | nil=>exact ha.nl ⟨λ_=>true,λj h1 _=>absurd h1 (Nat.not_lt_zero _),aD q⟩
  | cons=>exact nS q
 | cons x xs ih =>
  intro ys vs us r q ha hb
  cases ys with
  | nil=>exact nS q
  | cons y ys =>
   refine ha.un λv vs a1 a2=>hb.un λu us b1 b2=>aS q λp1 q1 q=>aS q λp2 q2 q=>(ih q2 a2 b2).elim λe w=>⟨λj=>Nat.rec (motive:=λ_=>Bool) p1 (λj _=>e j) j,λj g1 g2=>?_,?_⟩
   ·cases j with
    | zero=>exact hf _ _ _ _ _ q1 a1 b1
    | succ j=>exact w.1 j (Nat.lt_of_succ_lt_succ g1) (Nat.lt_of_succ_lt_succ g2)
   ·rw [List.length_cons,List.range_succ_eq_map,List.all_cons,List.all_map,← aD q,← w.2]
    rfl
noncomputable def t8 (A:Around) (s:Shared) (va vb:Value) (r:Bool) (o:Option Bool):Prop:=o=some r→EqAt A s va vb r
theorem t8.no {A:Around} {s:Shared} {va vb:Value} {r:Bool}:t8 A s va vb r none:=λe=>nomatch e
theorem I3 {x y:Nat}:Nat.beq x y=(dec x == dec y):=by
 cases q:Nat.beq x y with
 | true=>rw [ar q]; simp
 | false =>
  have:dec x≠dec y:=λz=>by rw [fX z,Nat.beq_refl] at q; cases q
  exact (beq_eq_false_iff_ne.mpr this).symm
theorem Qf (S:SR P ν hG fz L ρ σ s) (n:Nat):∀ {A:Around} {a b:SV} {va vb:Value} {r:Bool},Y4 n σ.hp a b=some r→VR ν ρ a va→VR ν ρ b vb→A.units+n<cLine→EqAt A s va vb r:=by
 induction n with
 | zero=>exact λe=>nS e
 | succ n ih =>
  intro A a b va vb r e ha hb hu
  revert e
  refine dm (p:=t8 A s va vb r) (λx ea=>dm (p:=t8 A s va vb r) (λy eb e=>?_) t8.no) (fp (p:=t8 A s va vb r) (λx ea=>fp (p:=t8 A s va vb r) (λy eb e=>?_) t8.no)
   (uI (p:=t8 A s va vb r) (λx ea=>uI (p:=t8 A s va vb r) (λy eb e=>?_) t8.no) (qV (p:=t8 A s va vb r) (λea=>qV (p:=t8 A s va vb r) (λeb e=>?_) t8.no)
   (dG (p:=t8 A s va vb r) (λx ea=>dG (p:=t8 A s va vb r) (λy eb e=>?_) t8.no) t8.no))))<;>subst ea eb
  ·obtain ⟨k,rfl⟩:=ha
   obtain ⟨k',rfl⟩:=hb
   rw [← I2 (ν:=ν) e]
   exact EqAt.int_int _ _ _ _
  ·obtain ⟨k,rfl⟩:=ha
   obtain ⟨k',rfl⟩:=hb
   rw [← aD e,I3]
   exact EqAt.str_str _ _ _ _
  ·rw [show va=_ from ha,show vb=_ from hb,← aD e]; exact EqAt.bool_bool _ _
  ·rw [show va=_ from ha,show vb=_ from hb,← aD e]; exact EqAt.same _
  ·obtain ⟨a,hx,rfl⟩:=ha
   obtain ⟨b,hy,rfl⟩:=hb
   cases q:Nat.beq x y with
   | true =>
    rw [q] at e
    rw [ar q,hy] at hx
    rw [aD hx,← aD e]
    exact EqAt.same _
   | false =>
    rw [q] at e
    have hne:∀ {xs ys},σ.hp.get x=some (.list xs)→σ.hp.get y=some (.list ys)→a≠b:=λg1 g2 z=>Nat.ne_of_beq_eq_false q (S.inj _ _ _ _ _ g1 g2 hx (z▸hy) rfl rfl)
    have hu1:A.units+1+n<cLine:=by rw [Nat.add_right_comm]; exact hu
    have hu2:A.units<cLine:=Nat.lt_of_le_of_lt (Nat.le_add_right _ _) hu
    cases (qX e:Et (Y4 n σ.hp) σ.hp x y r) with
    | same xs ys g1 g2 hl e =>
     obtain ⟨vs,k,h1,h2⟩:=S.list g1 hx
     obtain ⟨us,k',h3,h4⟩:=S.list g2 hy
     obtain ⟨f,f1,f2⟩:=Ae (A:=A.in1) (s:=s) (λx' y' v u b z v1 v2=>ih z v1 v2 hu1) e h2 h4
     have:=RcAt.lists (A:=A) (e:=f) (ao h1) (ao h3) (h2.length.trans (hl.trans h4.length.symm)) hu2 (λj g1 g2=>by simpa using f1 j g1 g2)
     rw [← f2]
     exact EqAt.of_refs (hne g1 g2) this
    | diff xs ys g1 g2 hl e =>
     obtain ⟨vs,k,h1,h2⟩:=S.list g1 hx
     obtain ⟨us,k',h3,h4⟩:=S.list g2 hy
     rw [e]
     exact EqAt.of_refs (hne g1 g2) (RcAt.lists_lengths (ao h1) (ao h3) (by simp [h2.length,h4.length,hl]) hu2)
end
section
variable {P:Params} {ν:Nat→Int} {hG:Heap} {fz:Addr→Obj→Prop} {L:Addr} {ρ:Nm} {σ:SS} {s:Shared}
theorem SR.jH (S:SR P ν hG fz L ρ σ s) {n:Nat} {es:List (Nat×SV)} {a:Addr} (e:σ.hp.get n=some (.dict es)) (ha:ρ n=some a):∃ es',s.heap.get? a=some (dictOf es' es'.length)∧dk P ν ρ es es':=by
 obtain ⟨b,o,h1,h2,⟨vs,rfl,h3⟩,_⟩:=S.hp n _ e
 rw [ha] at h1; cases h1
 exact ⟨vs,h2,h3⟩
theorem SR.dict (S:SR P ν hG fz L ρ σ s) {n:Nat} {es:List (Nat×SV)} {a:Addr} (e:σ.hp.get n=some (.dict es)) (ha:ρ n=some a):∃ es' k,s.heap.get? a=some (dictOf es' k)∧dk P ν ρ es es':=by
 obtain ⟨es',h1,h2⟩:=S.jH e ha
 exact ⟨es',_,h1,h2⟩
theorem qY {m x:Nat} {t:Tok}:Value.isStrOf (dec x) (.str (dec m) t)=Nat.beq m x:=by
 show (dec m == dec x)=_
 cases q:Nat.beq m x with
 | true=>rw [ar q]; simp
 | false =>
  have:dec m≠dec x:=λz=>by rw [fX z,Nat.beq_refl] at q; cases q
  exact beq_eq_false_iff_ne.mpr this
theorem dk.find {es:List (Nat×SV)} {es':List DictEntry} (x:Nat) (q:dk P ν ρ es es') :
 match lk es x with
 | some sv=>∃ v,(es'.find? λe=>Value.isStrOf (dec x) e.key).map (·.val)=some v∧VR ν ρ sv v
 | none=>(es'.find? λe=>Value.isStrOf (dec x) e.key)=none:=by
 refine q.ind (motive:=λes es'=>match lk es x with
  | some sv=>∃ v,(es'.find? λe=>Value.isStrOf (dec x) e.key).map (·.val)=some v∧VR ν ρ sv v
  | none=>(es'.find? λe=>Value.isStrOf (dec x) e.key)=none) rfl λp r e es' h _ ih=>?_
 obtain ⟨⟨k,hk⟩,_,hv⟩:=h
 rw [aQ,List.find?_cons,hk,qY]
 by_cases q:p.1=x
 ·rw [if_pos q,q,Nat.beq_refl]
  exact ⟨e.val,rfl,hv⟩
 ·rw [if_neg q,ZT q]
  exact ih
theorem dk.keys {prog:Program} {w:World} {es:List (Nat×SV)} {es':List DictEntry} (q:dk w.params ν ρ es es'):∀ e∈es',∃ k,(strKind prog w).is k e.key=true∧e.hash=(strKind prog w).hash k:=by
 refine q.ind (motive:=λ_ es'=>∀ e∈es',∃ k,(strKind prog w).is k e.key=true∧e.hash=(strKind prog w).hash k) (λ_ h=>nomatch h) λp r e es' h _ ih e' he=>memC he ?_ (ih e')
 exact h.1.elim λk hk=>⟨dec p.1,by rw [hk]; exact strKind_is prog w _ _,h.2.1⟩
theorem nH {prog:Program} {w:World} {es:List (Nat×SV)} {es':List DictEntry} {k:Nat} {a:Addr} (ho:s.heap.get? a=some (dictOf es' k)) (hr:dk w.params ν ρ es es') :
 s.heap.MapOf (strKind prog w) a (λx=>findBy Value.isStrOf es'.toArray x) :=
 ⟨_,es'.toArray,k,ho,⟨rfl,rfl,rfl⟩,rfl,λe he=>dk.keys hr e (by simpa using he),λ_=>rfl⟩
theorem gH {es':List DictEntry} {x:Str}:findBy Value.isStrOf es'.toArray x=(es'.find? λe=>Value.isStrOf x e.key).map (·.val):=by
 unfold findBy
 rw [List.find?_toArray]
theorem SR.me {K:Frag} {mg mb:Str→Option Value} (S:SR P ν hG fz L ρ σ s) (G:Gd K mg mb hG) {n:Nat} {so:SO} {a:Addr} (e:σ.hp.get n=some so) (ha:ρ n=some a) (hs:ag so=false:=by rfl):(a == sysModules)=false:=by
 obtain ⟨b,o,h1,_,_,_,h5⟩:=S.hp n _ e
 rw [ha] at h1; cases h1
 obtain ⟨om,hm⟩:=G.mods
 cases q:a == sysModules with
 | false=>rfl
 | true=>exact absurd (S.gd _ _ (beq_iff_eq.mp q▸hm)) (h5 hs _)
theorem da (x:Str) (v:Value):v.isStr x=Value.isStrOf x v:=by cases v<;>rfl
theorem B0 (x:Str):(λe:DictEntry=>e.key.isStr x)=λe=>Value.isStrOf x e.key:=by
 funext e; exact da _ _
theorem dk.noRef {es:List (Nat×SV)} {es':List DictEntry} (q:dk P ν ρ es es'):es'.any (·.refKey)=false:=by
 refine q.ind (motive:=λ_ es'=>es'.any (·.refKey)=false) rfl λp r e es' h _ ih=>?_
 rw [List.any_cons,ih,Bool.or_false]
 unfold DictEntry.refKey
 exact h.1.elim λk hk=>by rw [hk]
theorem dk.putL {x:Nat} {sv:SV} {v:Value} {tk:Tok} (hv:VR ν ρ sv v) {es:List (Nat×SV)} {es':List DictEntry} (q:dk P ν ρ es es') :
 dk P ν ρ (Eg es x sv) (PySem.W.putL (dec x) (PyData.keyHash P (dec x)) (.str (dec x) tk) v es'):=by
 refine q.ind (motive:=λes es'=>dk P ν ρ (Eg es x sv) (PySem.W.putL (dec x) (PyData.keyHash P (dec x)) (.str (dec x) tk) v es')) ⟨⟨⟨tk,rfl⟩,rfl,hv⟩,trivial⟩ λp r e es' h hr ih=>?_
 obtain ⟨⟨k,hk⟩,hh,hv'⟩:=h
 unfold PySem.W.putL
 rw [uF,da,hk,qY]
 cases q:Nat.beq p.1 x with
 | true=>exact ⟨⟨⟨k,rfl⟩,hh,hv⟩,hr⟩
 | false=>exact ⟨⟨⟨k,hk⟩,hh,hv'⟩,ih⟩
theorem dH {x:Str} {h:Int} {k v:Value} {es:List DictEntry}:(putL x h k v es).length=putN x es es.length:=by
 induction es with
 | nil=>rfl
 | cons e r ih =>
  unfold PySem.W.putL
  unfold putN at ih ⊢
  rw [List.any_cons]
  cases q:e.key.isStr x with
  | true=>rfl
  | false =>
   rw [Bool.false_or,if_neg Bool.false_ne_true,List.length_cons,ih,List.length_cons]
   cases r.any λe=>e.key.isStr x<;>rfl
theorem sM {x:Str} {h:Int} {k v:Value} {es:List DictEntry}:(putL x h k v es).length≤es.length+1:=by
 rw [dH]
 unfold putN
 split
 ·exact Nat.le_succ _
 ·exact Nat.le_refl _
end
theorem ie {prog:Program} {w:World} {A:Around} {E:Value→Shared→Prop} {s:Shared} {ν:Nat→Int} {ρ:Nm} {d:Addr} {x:Nat} {tk:Tok} {v:Value} {Q:Unit→Shared→Prop} {es:List (Nat×SV)} {es':List DictEntry} {k:Nat}
 (ho:s.heap.get? d=some (dictOf es' k)) (hr:dk w.params ν ρ es es') (hl:es'.length≤1000)
 (hQ:∀ h',h'.get? d=some (dictOf (putL (dec x) (PyData.keyHash w.params (dec x)) (.str (dec x) tk) v es') (putN (dec x) es' k))→Heap.SameBut d s.heap h'→Q () { s with heap:=h',toks:=s.toks+1 }) :
 wpAny (model prog w) A (dictSet d (.str (dec x) tk) v) Q E s:=by
 have hkey:=strKind_is prog w (dec x) tk
 have hk:KeysOf (strKind prog w) es'.toArray:=λe he=>dk.keys hr e (by simpa using he)
 have key:=putL_find (dec x) (PyData.keyHash w.params (dec x)) (.str (dec x) tk) v es'
 have hany:=any_of_findIdx (dec x) es'
 have hfun:(λe:DictEntry=>(strKind prog w).is (dec x) e.key)=λe=>e.key.isStr (dec x):=by
  funext e; exact (da _ _).symm
 unfold dictSet
 try with_reducible refine cL ?_
 refine aF ((strKind prog w).pyHash hkey ?_)
 unfold dictSetHashed
 try with_reducible refine cL ?_
 refine aF (wpAny_dictFind_of (s:={ s with toks:=s.toks+1 }) hkey ho rfl hk ?_)
 rw [hfun,List.findIdx?_toArray]
 cases hi:es'.findIdx? (λe=>e.key.isStr (dec x)) with
 | some i =>
  rw [hi] at key hany
  have hp:putN (dec x) es' k=k:=by
   unfold putN
   rw [← hany]; rfl
  refine aF (wpAny_rule (aF (wpAny_updateDict (s:={ s with toks:=s.toks+1 }) ho rfl (wpAny_point (hQ _ ?_ (Heap.SameBut.update ..))))))
  rw [Heap.get?_update_self _ ho (Obj.isFreed_of_dict (Obj.data_mapDict rfl _)),hp,← key]
  simp [Obj.mapDict,dictOf]
 | none =>
  rw [hi] at key hany
  have hp:putN (dec x) es' k=k+1:=by
   unfold putN
   rw [← hany]; rfl
  refine aF (wpAny_rule (wpAny_updateDictKeys (hz:=by rw [List.size_toArray,sizeLine_eq]; omega) (s:={ s with toks:=s.toks+1 }) ho rfl (hQ _ ?_ (Heap.SameBut.update ..))))
  rw [Heap.get?_update_self _ ho (Obj.isFreed_of_dict (Obj.data_mapDictKeys rfl _)),hp,← key]
  simp [Obj.mapDictKeys,dictOf]
  rfl
def kL (d:Nat) (x:Nat) (v:SV):RM Unit:=λσ=>ob (gD (σ.hp.get d)) λes=>cond (Nat.ble es.length 900) (some [((),{ σ with hp:=σ.hp.put d (.dict (Eg es x v)) })]) none
section
variable {c:Cx} {ρ₀:Nm}
theorem qZ {d x:Nat} {sv:SV} {σ:SS} {outs:List (Unit×SS)} (e:kL d x sv σ=some outs):∃ es,σ.hp.get d=some (.dict es)∧outs=[((),{ σ with hp:=σ.hp.put d (.dict (Eg es x sv)) })]∧es.length≤900:=by
 refine aS e λes q e=>?_
 cases z:Nat.ble es.length 900 with
 | false=>rw [z] at e; exact nS e
 | true =>
  rw [z] at e
  exact ⟨es,sJ q,(aD e).symm,bK z⟩
theorem uJ {d x:Nat} {sv:SV} {v:Value} {tk:Tok} {a:Addr} (ha:ρ₀ d=some a) (hv:VR c.ν ρ₀ sv v):aJ c ρ₀ (kL d x sv) (dictSet a (.str (dec x) tk) v) (λ_ _ _=>True):=by
 refine aJ.one λσ outs e=>?_
 obtain ⟨es,q,rfl,hl⟩:=qZ e
 refine ⟨(),_,rfl,λρ s x' S Q E hQ=>?_⟩
 obtain ⟨es',ho,hr⟩:=S.jH q (x' _ _ ha)
 refine ie ho hr (by rw [hr.length]; omega) λh' h1 hs=>hQ ρ _ _ (.refl _) (SR.change (t:=s.toks+1) S q (x' _ _ ha) h1 ?_ hs) trivial (.mk _ _ _)
 rw [← dH (h:=PyData.keyHash c.w.params (dec x)) (k:=.str (dec x) tk) (v:=v)]
 exact ⟨_,rfl,hr.putL (hv.mono x')⟩
theorem sN {d x:Nat} {sv:SV} {v:Value} {tk:Tok} {a:Addr} (ha:ρ₀ d=some a) (hv:VR c.ν ρ₀ sv v):aJ c ρ₀ (kL d x sv) (setItem (.ref a) (.str (dec x) tk) v) (λ_ _ _=>True):=by
 have base:=uJ (c:=c) (tk:=tk) (x:=x) ha hv
 intro σ outs e ρ s y S Q E hQ
 obtain ⟨es,q,rfl,hl⟩:=qZ e
 obtain ⟨es',ho,hr⟩:=S.jH q (y _ _ ha)
 have hT:s.TypeIs (.ref a) "dict" := ⟨_,ho,rfl⟩
 unfold setItem
 try with_reducible refine cL ?_
 refine aF (wpAny_sequenceKey hT (by decide) ?_)
 refine aF (wpAny_callSpecial?_slot (name:=Str.ofString "__setitem__") hT slot_dict_setitem
  (wpAny_call_entry slot_dict_setitem hT entry_dict_setitem ?_ (args_dict_setitem _ _ _)))
 show wpAny _ _ (Builtin.Dict.notOrdered "__setitem__" ⟨[.ref a,.str (dec x) tk,v],[]⟩ >>= _) _ _ s
 refine aF (wpAny_notOrdered_dict hT ?_)
 show wpAny _ _ (dictSet a (.str (dec x) tk) v >>= _) _ _ s
 refine aF (ie ho hr (by rw [hr.length]; omega) λh' h1 hs=>aP ⟨.none,rfl,aP (hQ () _ ρ _ () (.head _) (.refl _) (SR.change (t:=s.toks+1) S q (y _ _ ha) h1 ?_ hs) trivial (.mk _ _ _))⟩)
 rw [← dH (h:=PyData.keyHash c.w.params (dec x)) (k:=.str (dec x) tk) (v:=v)]
 exact ⟨_,rfl,hr.putL (hv.mono y)⟩
end
noncomputable def natOf:Int→Option Nat
 | .ofNat n=>cond (Nat.blt n 1000000) (some n) none
 | .negSucc _=>none
theorem gJ {i:Int} {n:Nat} (e:natOf i=some n):i=(n:Int)∧n<1000000:=by
 cases i with
 | negSucc _=>cases e
 | ofNat m =>
  replace e:cond (Nat.blt m 1000000) (some m) none=some n:=e
  cases q:Nat.blt m 1000000 with
  | false=>rw [q] at e; exact nS e
  | true=>rw [q] at e; obtain rfl:=aD e; exact ⟨rfl,aC.mp q⟩
def sO (l:List SV):Nat→Option SV:=List.rec (motive:=λ_=>Nat→Option SV) (λ_=>none) (λx _ ih n=>Nat.rec (motive:=λ_=>Option SV) (some x) (λn _=>ih n) n) l
theorem mf (l:List SV):∀ n:Nat,sO l n=l[n]?:=by
 induction l with
 | nil=>exact λ_=>rfl
 | cons x r ih =>
  intro n
  cases n with
  | zero=>rfl
  | succ n=>exact ih n
def Af (n i:Nat):Option Nat:=(Bw n)[i]?
def Ll (H:Hp) (n j:Nat):Option SV:=Option.rec (motive:=λ_=>Option SV) (ob (gT (H.get n)) λxs=>sO xs j) (λxs=>sO xs j) (gL (H.get n))
def Tv (H:Hp) (n x:Nat):Option SV:=ob (gD (H.get n)) λes=>lk es x
def Tw (n j:Nat):Option SV:=Option.rec (motive:=λ_=>Option SV) none (λch=>cond (Nat.beq (encL [ch]) ch&&(Nat.ble 1 ch&&Nat.ble ch 256)) (some (.str ch)) none) (Af n j)
def ZX {α:Type} (i:SV) (f:Nat→Option α):Option α:=qU i (λt=>By t (λk=>Option.rec (motive:=λ_=>Option α) none f (natOf k)) none) none
def nI (H:Hp) (o i:SV):Option SV:=qC o (λn=>Ac i (Tv H n) (ZX i (Ll H n))) (Ac o (λn=>ZX i (Tw n)) none)
inductive qa (H:Hp) (o i r:SV):Prop
 | chr (n j ch:Nat) (eo:o=.str n) (ei:i=.int (.c (j:Int))) (er:r=.str ch) (h:Af n j=some ch) (h1:1≤ch) (h2:ch≤256) (hj:j<1000000):qa H o i r
 | lst (n j:Nat) (xs:List SV) (eo:o=.ref n) (ei:i=.int (.c (j:Int))) (h:H.get n=some (.list xs)) (hr:xs[j]?=some r) (hj:j<1000000):qa H o i r
 | tup (n j:Nat) (xs:List SV) (eo:o=.ref n) (ei:i=.int (.c (j:Int))) (h:H.get n=some (.tup xs)) (hr:xs[j]?=some r) (hj:j<1000000):qa H o i r
 | dct (n x:Nat) (es:List (Nat×SV)) (eo:o=.ref n) (ei:i=.str x) (h:H.get n=some (.dict es)) (hr:lk es x=some r):qa H o i r
noncomputable def qb (H:Hp) (o i r:SV) (q:Option SV):Prop:=q=some r→qa H o i r
theorem qb.no {H:Hp} {o i r:SV}:qb H o i r none:=λe=>nomatch e
theorem Ag {α:Type} {i:SV} {f:Nat→Option α} {r:α} (e:ZX i f=some r):∃ j:Nat,i=.int (.c (j:Int))∧j<1000000∧f j=some r:=by
 revert e
 refine dm (p:=λq=>q=some r→_) (λt ei=>fq (p:=λq=>q=some r→_) (λk ek e=>?_) λe=>nomatch e) λe=>nomatch e
 cases q:natOf k with
 | none=>rw [q] at e; cases e
 | some j =>
  rw [q] at e
  exact ⟨j,by rw [ei,ek,(gJ q).1],(gJ q).2,e⟩
theorem qc {H:Hp} {o i r:SV} (e:nI H o i=some r):qa H o i r:=by
 revert e
 refine dG (p:=qb H o i r) (λn eo=>fp (p:=qb H o i r) (λx ei e=>?_) λe=>?_) (fp (p:=qb H o i r) (λn eo e=>?_) qb.no)
 ·exact aS e λes q e=>.dct n x es eo ei (sJ q) e
 ·obtain ⟨j,ei,hj,e⟩:=Ag e
  unfold Ll at e
  cases q:gL (H.get n) with
  | some xs=>rw [q] at e; exact .lst n j xs eo ei (jG q) ((mf _ _).symm.trans e) hj
  | none=>rw [q] at e; exact aS (o:=gT (H.get n)) e λxs q e=>.tup n j xs eo ei (I0 q) ((mf _ _).symm.trans e) hj
 ·obtain ⟨j,ei,hj,e⟩:=Ag e
  unfold Tw at e
  cases q:Af n j with
  | none=>rw [q] at e; cases e
  | some ch =>
   rw [q] at e
   cases z:(Nat.beq (encL [ch]) ch&&(Nat.ble 1 ch&&Nat.ble ch 256)) with
   | false=>dsimp only at e; rw [z] at e; cases e
   | true =>
    dsimp only at e
    rw [z] at e
    rw [Bool.and_eq_true,Bool.and_eq_true] at z
    exact .chr n j ch eo ei (aD e).symm q (bK z.2.1) (bK z.2.2) hj
section
variable {c:Cx} {ρ₀:Nm}
theorem I4 {ch:Nat} (h1:1≤ch) (h2:ch≤256):dec ch=⟨#[ch]⟩:=by
 have e:=dec_enc (s:=⟨#[ch]⟩) (by simp [Ej,h1,h2])
 have:enc ⟨#[ch]⟩=ch:=by simp [enc,encL]
 rw [this] at e
 exact e
theorem jI {j n:Nat} (h:j<n):seqIndex? (j:Int) n=some j:=by
 unfold seqIndex?
 have h0:¬ ((j:Int)<0):=by omega
 simp only [h0,if_false]
 rw [if_pos (by simp; omega)]
 simp
theorem Eu {o i:SV} {vo vi:Value} (ho:VR c.ν ρ₀ o vo) (hi:VR c.ν ρ₀ i vi):aJ c ρ₀ (RM.look λσ=>nI σ.hp o i) (getItem vo vi) (VR c.ν):=by
 refine aJ.look λσ a e ρ s x S Q E hQ=>?_
 replace ho:=ho.mono x
 replace hi:=hi.mono x
 have inv:=qc e
 clear e
 rcases inv with ⟨n,j,ch,rfl,rfl,rfl,q2,b1,b2,hj⟩ | ⟨n,j,xs,rfl,rfl,q2,e,hj⟩ | ⟨n,j,xs,rfl,rfl,q2,e,hj⟩ | ⟨n,k,es,rfl,rfl,q,e⟩
 ·-- text at an int
  obtain ⟨t1,rfl⟩:=ho
  obtain ⟨t2,rfl⟩:=hi
  unfold Af at q2
  have hlen:j<(Bw n).length:=(List.getElem?_eq_some_iff.mp q2).1
  refine PySem.P.getItem_str (c:=ch) (by simp only [Bool.or_eq_false_iff,decide_eq_false_iff_not]; show ¬ ((j:Int)<_)∧¬ ((j:Int) ≥ _); omega) ?_ (hQ _ _ (S.toks _) ⟨s.toks,by rw [I4 b1 b2]⟩ ⟨s.heap,_,rfl⟩)
  have hl:(dec n).length=(Bw n).length:=by simp [dec,Str.length]
  have hq:seqIndex? ((IT.c (j:Int)).ev c.ν) (dec n).length=some j:=by
   rw [hl]
   exact jI hlen
  rw [hq]
  simpa [dec] using q2
 ·-- an item of a list or a tuple
  obtain ⟨ad,hn,rfl⟩:=ho
  obtain ⟨t2,rfl⟩:=hi
  obtain ⟨vs,m,h1,h2⟩:=S.list q2 hn
  obtain ⟨v,g1,g2⟩:=h2.get e
  exact wpAny_getItem_list (ao h1) (by show (0:Int)≤(j:Int); omega) (by show (j:Int)<_; omega) (by show vs.toArray[((j:Int)).toNat]?=some v; simpa using g1) (hQ s v S g2 (.refl _))
 ·obtain ⟨ad,hn,rfl⟩:=ho
  obtain ⟨t2,rfl⟩:=hi
  obtain ⟨vs,m,h1,h2⟩:=S.tup q2 hn
  obtain ⟨v,g1,g2⟩:=h2.get e
  have hlt:j<vs.length:=(List.getElem?_eq_some_iff.mp g1).1
  refine PyProof.Rows.getItem_tuple ⟨_,h1,rfl,m,rfl⟩ (k:=j) (by show _≤(j:Int); omega) (by show (j:Int)<_; omega) ?_ (by simpa using g1) (hQ s v S g2 (.refl _))
  rw [List.size_toArray]
  exact jI hlt
 ·-- a dict's
  obtain ⟨ad,hn,rfl⟩:=ho
  obtain ⟨t2,rfl⟩:=hi
  obtain ⟨es',m,h1,h2⟩:=S.dict q hn
  have hf:=h2.find k
  rw [e] at hf
  obtain ⟨v,g1,g2⟩:=hf
  exact wpAny_getItem_of (strKind_is c.prog c.w _ _) (nH (prog:=c.prog) h1 h2) (by rw [gH]; exact g1) (hQ _ v (S.toks _) g2 ⟨s.heap,_,rfl⟩)
end
noncomputable abbrev PT (β:Type):=(β→Shared→Prop)→(Value→Shared→Prop)→Shared→Prop
noncomputable def a0 (c:Cx) (ρ₀:Nm) {α β:Type} (m:RM α) (W:PT β) (R:Nm→α→β→Prop):Prop :=
 ∀ σ outs,m σ=some outs→∀ ρ s,Ext ρ₀ ρ→c.SR ρ σ s→∀ (Q:β→Shared→Prop) (E:Value→Shared→Prop),
  Kq c ρ outs R s Q→W Q E s
section
variable {c:Cx} {ρ₀:Nm} {α β γ δ:Type}
theorem aJ.w {m:RM α} {t:Sem β} {R:Nm→α→β→Prop} (h:aJ c ρ₀ m t R):a0 c ρ₀ m (λQ E s=>wpAny c.M c.A t Q E s) R:=h
theorem a0.snd {m:RM α} {W:PT β} {t:Sem β} {R:Nm→α→β→Prop} (h:a0 c ρ₀ m W R) (hw:∀ Q E s,W Q E s→wpAny c.M c.A t Q E s):aJ c ρ₀ m t R :=
 λσ outs e ρ s x S Q E hQ=>hw Q E s (h σ outs e ρ s x S Q E hQ)
theorem a0.to {m:RM α} {W W':PT β} {R:Nm→α→β→Prop} (h:a0 c ρ₀ m W R) (hw:∀ Q E s,W Q E s→W' Q E s):a0 c ρ₀ m W' R :=
 λσ outs e ρ s x S Q E hQ=>hw Q E s (h σ outs e ρ s x S Q E hQ)
theorem a0.bind {m:RM α} {W:PT β} {R:Nm→α→β→Prop} {k:α→RM γ} {W':β→PT δ} {R':Nm→γ→δ→Prop} (h:a0 c ρ₀ m W R)
 (hk:∀ ρ₁ x v,Ext ρ₀ ρ₁→R ρ₁ x v→a0 c ρ₁ (k x) (W' v) R'):a0 c ρ₀ (RM.az m k) (λQ E s=>W (λv s'=>W' v Q E s') E s) R':=by
 intro σ outs e ρ s x S Q E hQ
 obtain ⟨l,hl,hg⟩:=RM.aO e
 refine h σ l hl ρ s x S _ E λa σ' ρ' s' v hm x' S' r sm=>?_
 obtain ⟨o,ho,hs⟩:=hg (a,σ') hm
 exact hk ρ' a v (x.trans x') r σ' o ho ρ' s' (.refl _) S' Q E λy σ'' ρ'' s'' u hm' x'' S'' r' sm'=>hQ y σ'' ρ'' s'' u (hs _ hm') (x'.trans x'') S'' r' (sm.trans sm')
theorem a0.ret {a:α} {v:β} {R:Nm→α→β→Prop} (h:∀ ρ,Ext ρ₀ ρ→R ρ a v):a0 c ρ₀ (RM.ret a) (λQ E s=>Q v s) R:=by
 intro σ outs e ρ s x S Q E hQ
 cases e
 exact hQ a σ ρ s v (.head _) (.refl _) S (h ρ x) (.refl _)
theorem a0.bad {W:PT β} {R:Nm→α→β→Prop}:a0 c ρ₀ (RM.bad:RM α) W R:=λ_ _ e=>nomatch e
theorem a0.rel {m:RM α} {W:PT β} {R R':Nm→α→β→Prop} (h:a0 c ρ₀ m W R) (hR:∀ ρ x v,R ρ x v→R' ρ x v):a0 c ρ₀ m W R' :=
 λσ outs e ρ s x S Q E hQ=>h σ outs e ρ s x S Q E λy σ' ρ' s' v hm x' S' r sm=>hQ y σ' ρ' s' v hm x' S' (hR _ _ _ r) sm
theorem a0.weak {m:RM α} {W:PT β} {R:Nm→α→β→Prop} {ρ₁:Nm} (h:a0 c ρ₀ m W R) (x:Ext ρ₀ ρ₁):a0 c ρ₁ m W R:=λσ outs e ρ s y S=>h σ outs e ρ s (x.trans y) S
theorem a0.guard {b:Bool} {k:RM α} {W:PT β} {R:Nm→α→β→Prop} (h:b=true→a0 c ρ₀ k W R):a0 c ρ₀ (cond b k RM.bad) W R:=by
 cases b with
 | false=>exact a0.bad
 | true=>exact h rfl
theorem aJ.known {t:Sem β} {v:β} {a:α} {R:Nm→α→β→Prop} (h:∀ ρ,Ext ρ₀ ρ→R ρ a v) (ht:∀ (s:Shared) (Q:β→Shared→Prop) (E:Value→Shared→Prop),Q v s→wpAny c.M c.A t Q E s):aJ c ρ₀ (RM.ret a) t R:=by
 intro σ outs e ρ s x S Q E hQ
 cases e
 exact ht s Q E (hQ a σ ρ s v (.head _) (.refl _) S (h ρ x) (.refl _))
end
def RM.alloc (so:SO):RM SV:=λσ=>cond (Nat.blt σ.nx 1024) (some [(.ref σ.nx,{ σ with hp:=σ.hp.put σ.nx so,nx:=σ.nx+1 })]) none
noncomputable def fC (xs:List SV):Bool:=Nat.ble xs.length 1000
section
variable {c:Cx} {ρ₀:Nm} {α β:Type}
theorem aJ.alloc {so:SO} {t:Sem Value} {o:Obj} (hf:o.isFreed=false) (hr:∀ ρ,Ext ρ₀ ρ→OR c.w.params c.ν ρ so o)
 (ht:∀ (s:Shared) (Q:Value→Shared→Prop) (E:Value→Shared→Prop),Q (.ref s.heap.objs.size) { s with heap:=s.heap.push o }→wpAny c.M c.A t Q E s):aJ c ρ₀ (RM.alloc so) t (VR c.ν):=by
 refine aJ.one λσ outs e=>?_
 unfold RM.alloc at e
 cases q:Nat.blt σ.nx 1024 with
 | false=>rw [q] at e; cases e
 | true =>
  rw [q] at e
  cases e
  refine ⟨_,_,rfl,λρ s x S Q E hQ=>ht s Q E ?_⟩
  have X:=S.ext s.heap.objs.size
  refine hQ _ _ _ X (SR.alloc (a:=s.heap.objs.size) (o:=o) S (aC.mp q) ?_ (Heap.get?_push_size _ hf) (λb o e=>cK _ e) (hr _ (x.trans X)) (t:=s.toks)) ⟨_,by simp [bA],rfl⟩ (.mk _ _ _)
  cases z:s.heap.get? s.heap.objs.size with
  | none=>rfl
  | some o'=>exact absurd (bE z) (Nat.lt_irrefl _)
theorem uK {xs:List SV} {vs:List Value} (h:bX c.ν ρ₀ xs vs):aJ c ρ₀ (cond (fC xs) (RM.alloc (.list xs)) RM.bad) (newList vs) (VR c.ν):=by
 refine aJ.guard λhl=>?_
 have hl':vs.length≤1000:=by rw [h.length]; exact bK hl
 exact aJ.alloc (o:=bF vs 0) rfl (λρ x=>⟨vs,0,rfl,h.mono x⟩) λs Q E q=>wpAny_newList q (by rw [sizeLine_eq]; omega)
theorem sP {xs:List SV} {vs:List Value} (h:bX c.ν ρ₀ xs vs):aJ c ρ₀ (cond (fC xs) (RM.alloc (.tup xs)) RM.bad) (newTuple vs) (VR c.ν):=by
 refine aJ.guard λhl=>?_
 have hl':vs.length≤1000:=by rw [h.length]; exact bK hl
 exact aJ.alloc (o:=ej vs 0) rfl (λρ x=>⟨vs,0,rfl,h.mono x⟩) λs Q E q=>wpAny_newTuple q (by rw [sizeLine_eq]; omega)
end
inductive FL where
 | next
 | cont
 | ret (v:SV)
noncomputable def iG (ν:Nat→Int) (ρ:Nm):FL→Flow→Prop
 | .next,f=>f=.next
 | .cont,f=>f=.cont
 | .ret sv,f=>∃ v,f=.ret v∧VR ν ρ sv v
structure Lo where
 E:CE→Expr→RM SV
 B:CE→Expr→RM Bool
 S:CE→Stmt→RM FL
 C:SV→List SV→RM SV
noncomputable def dI (c:Cx):Prop:=∃ l,c.A.frames=some l∧∀ env∈l,env.scope.kind≠.module∧∃ L,env.frame=some L∧(L=c.L∨((∃ o,c.fz L o∧d7 o)∧c.hG.get? L=none))
structure Rm (c:Cx) (n:Nat):Prop where
 stk:dI c
 hh:c.A.handled=none
 depth:c.A.depth+4 * n+44<recursionLimit
 units:c.A.units+60 * n+660<cLine
structure Ds where
 prog:Program
 w:World
 ν:Nat→Int
 hG:Heap
structure Cx.Of (c:Cx) (D:Ds):Prop where
 prog:c.prog=D.prog
 w:c.w=D.w
 ν:c.ν=D.ν
 hG:c.hG=D.hG
structure bR (D:Ds) (n:Nat) (lo:Lo):Prop where
 E:∀ (c:Cx) (ρ:Nm) (ce:CE) (env:Env) (e:Expr),c.Of D→Rm c n→aG c ρ ce env→aJ c ρ (lo.E ce e) (eval e env) (VR c.ν)
 B:∀ (c:Cx) (ρ:Nm) (ce:CE) (env:Env) (e:Expr),c.Of D→Rm c n→aG c ρ ce env→aJ c ρ (lo.B ce e) (isTrue e env (eval e env)) (λ_ b v=>v=b)
 S:∀ (c:Cx) (ρ:Nm) (ce:CE) (env:Env) (e:Stmt),c.Of D→Rm c n→aG c ρ ce env→aJ c ρ (lo.S ce e) (exec e env) (iG c.ν)
 C:∀ (c:Cx) (ρ:Nm) (f:SV) (xs:List SV) (vf:Value) (vs:List Value),c.Of D→Rm c n→VR c.ν ρ f vf→bX c.ν ρ xs vs→aJ c ρ (lo.C f xs) (call vf vs) (VR c.ν)
theorem Rm.le {c:Cx} {n m:Nat} (h:Rm c n) (l:m≤n):Rm c m:=by
 obtain ⟨h0,h1,h2,h3⟩:=h
 refine ⟨h0,h1,by omega,by omega⟩
theorem Rm.d1 {c:Cx} {n:Nat} (h:Rm c (n+1)):c.A.depth+4 * n+45<recursionLimit:=by have:=h.depth; omega
theorem Rm.u1 {c:Cx} {n:Nat} (h:Rm c (n+1)):c.A.units+60 * n+663<cLine:=by have:=h.units; omega
theorem Rm.d2 {c:Cx} {n:Nat} (h:Rm c (n+1)):c.A.depth+1+4 * n+45<recursionLimit:=by have:=h.depth; omega
theorem Rm.u2 {c:Cx} {n:Nat} (h:Rm c (n+1)):c.A.units+1+60 * n+663<cLine:=by have:=h.units; omega
theorem dI.fz {c c':Cx} (h:dI c) (hA:c'.A=c.A) (hL:c'.L=c.L) (hG:c'.hG=c.hG) (hf:∀ b o,c.fz b o→c'.fz b o):dI c':=by
 obtain ⟨l,h1,h2⟩:=h
 refine ⟨l,by rw [hA]; exact h1,λenv he=>?_⟩
 obtain ⟨k1,L,k2,k3⟩:=h2 env he
 refine ⟨k1,L,k2,k3.imp (λq=>q.trans hL.symm) λ⟨⟨o,q1,q2⟩,q3⟩=>⟨⟨o,hf _ _ q1,q2⟩,by rw [hG]; exact q3⟩⟩
theorem dI.under {c c':Cx} (h:dI c) (hA:c'.A=c.A) (hG:c'.hG=c.hG) (hf:∀ b o,c.fz b o→c'.fz b o) (hL:(∃ o,c'.fz c.L o∧d7 o)∧c.hG.get? c.L=none):dI c':=by
 obtain ⟨l,h1,h2⟩:=h
 refine ⟨l,by rw [hA]; exact h1,λenv he=>?_⟩
 obtain ⟨k1,L,k2,k3⟩:=h2 env he
 refine ⟨k1,L,k2,.inr ?_⟩
 rcases k3 with rfl | ⟨⟨o,q1,q2⟩,q3⟩
 ·rw [hG]; exact hL
 ·exact ⟨⟨o,hf _ _ q1,q2⟩,by rw [hG]; exact q3⟩
theorem dI.push {c c':Cx} {env:Env} (h:dI c) (hA:c'.A=c.A.deeper env) (hG:c'.hG=c.hG) (hf:∀ b o,c.fz b o→c'.fz b o) (hL:(∃ o,c'.fz c.L o∧d7 o)∧c.hG.get? c.L=none) (hk:env.scope.kind=.function) (hfr:env.frame=some c'.L):dI c':=by
 obtain ⟨l,h1,h2⟩:=h
 refine ⟨env::l,by rw [hA]; exact PySem.Around.frames_deeper h1,λenv' he=>?_⟩
 rcases aM he with rfl | he
 ·exact ⟨by rw [hk]; exact (λq=>nomatch q),_,hfr,.inl rfl⟩
 ·obtain ⟨k1,L,k2,k3⟩:=h2 env' he
  refine ⟨k1,L,k2,.inr ?_⟩
  rcases k3 with rfl | ⟨⟨o,q1,q2⟩,q3⟩
  ·rw [hG]; exact hL
  ·exact ⟨⟨o,hf _ _ q1,q2⟩,by rw [hG]; exact q3⟩
theorem dI.same {c c':Cx} (h:dI c) (hA:c'.A.frames=c.A.frames) (hL:c'.L=c.L) (hG:c'.hG=c.hG) (hf:c'.fz=c.fz):dI c':=by
 obtain ⟨l,h1,h2⟩:=h
 refine ⟨l,by rw [hA]; exact h1,λenv he=>?_⟩
 rw [hL,hG,hf]
 exact h2 env he
theorem Rm.fz {c c':Cx} {n:Nat} (h:Rm c n) (hA:c'.A=c.A) (hL:c'.L=c.L) (hG:c'.hG=c.hG) (hf:∀ b o,c.fz b o→c'.fz b o):Rm c' n :=
 ⟨h.stk.fz hA hL hG hf,by rw [hA]; exact h.hh,by rw [hA]; exact h.depth,by rw [hA]; exact h.units⟩
set_option backward.match.sparseCases true in
noncomputable def cH:Expr→Bool
 | .Starred _ _=>true
 | _=>false
def qF (lo:Lo) (ce:CE) (l:List Expr):RM (List SV):=List.rec (motive:=λ_=>RM (List SV)) (RM.ret [])
 (λe _ ih=>Bool.rec (motive:=λ_=>RM (List SV)) (RM.az (lo.E ce e) λx=>RM.az ih λxs=>RM.ret (x::xs)) RM.bad (cH e)) l
theorem uL {lo:Lo} {ce:CE} {e:Expr} {r:List Expr}:qF lo ce (e::r)=cond (cH e) RM.bad (RM.az (lo.E ce e) λx=>RM.az (qF lo ce r) λxs=>RM.ret (x::xs)):=by
 show Bool.rec (motive:=λ_=>RM (List SV)) (RM.az (lo.E ce e) λx=>RM.az (qF lo ce r) λxs=>RM.ret (x::xs)) RM.bad (cH e)=_
 cases cH e<;>rfl
section
variable {D:Ds} {n:Nat} {lo:Lo} {c:Cx} {ρ₀:Nm} {ce:CE} {env:Env}
theorem bT {e:Expr} {r:List Expr} (h:cH e=false):starEach (e::r) env=(false,eval e env)::starEach r env:=by
 cases e<;>first | rfl | cases h
theorem gK {p:Pos} {t:Sem Value} {r:List (Bool×Sem Value)}:backTo p ((false,t)::r)=(false,t)::backTo p r:=rfl
theorem ef (ok:bR D n lo) (co:c.Of D) (rm:Rm c n) {p:Pos}:∀ (es:List Expr) {ρ₀:Nm} {env:Env},aG c ρ₀ ce env→aJ c ρ₀ (qF lo ce es) (spliced (backTo p (starEach es env))) (bX c.ν)
 | [],_,env,eo=>aJ.known (v:=[]) (λ_ _=>trivial) λs Q E q=>spliced_nil q
 | e::r,ρ₀,env,eo=>by
  rw [uL]
  cases hs:cH e with
  | true=>exact aJ.bad
  | false =>
   rw [bT hs,gK]
   refine a0.snd (((ok.E c ρ₀ ce env e co rm eo).w).bind λρ₁ x v x1 r1=>((ef ok co rm (p:=p) r (eo.mono x1)).w).bind λρ₂ xs vs x2 r2=>a0.ret (v:=v::vs) λρ3 x3=>⟨(r1.mono x2).mono x3,r2.mono x3⟩) ?_
   intro Q E s h
   exact spliced_cons h
theorem gM (ok:bR D n lo) (co:c.Of D) (rm:Rm c n) {p:Pos} {f:Value} (es:List Expr) (eo:aG c ρ₀ ce env) :
 aJ c ρ₀ (qF lo ce es) (evalArgs f true (backTo p (starEach es env)) []) (λρ xs a=>bX c.ν ρ xs a.pos∧a.kw=[]):=by
 cases es with
 | nil =>
  refine aJ.known (v:=(⟨[],[]⟩:Args)) (R:=λρ xs a=>bX c.ν ρ xs a.pos∧a.kw=[]) (λ_ _=>⟨trivial,rfl⟩) λs Q E q=>?_
  unfold evalArgs
  refine aF (spliced_nil (aF (aP ?_)))
  exact cL (aF (aP (aF (aP (aP q)))))
 | cons e r =>
  cases hs:cH e with
  | true=>rw [uL,hs]; exact aJ.bad
  | false =>
   refine (ef ok co rm (p:=p) (e::r) eo).ZV (λvs=>(⟨vs,[]⟩:Args)) (λρ x v r=>⟨r,rfl⟩) λQ E s h=>?_
   rw [bT hs,gK] at h ⊢
   exact evalArgs_plain h
theorem Ew (ok:bR D n lo) (co:c.Of D) (rm:Rm c n) {p:Pos} (es:List Expr) (eo:aG c ρ₀ ce env) :
 aJ c ρ₀ (RM.az (qF lo ce es) λxs=>cond (fC xs) (RM.alloc (.list xs)) RM.bad) (eval (.List es p) env) (VR c.ν):=by
 show aJ c ρ₀ _ (standAt p >>= λ_=>spliced (backTo p (starEach es env)) >>= λvs=>newList vs) _
 exact aJ.standAt ((ef ok co rm es eo).bind λρ₁ xs vs x1 r1=>uK r1)
theorem B1 (ok:bR D n lo) (co:c.Of D) (rm:Rm c n) {k:Nat} {p:Pos} (es:List Expr) (eo:aG c ρ₀ ce env) :
 aJ c ρ₀ (RM.az (qF lo ce es) λxs=>cond (fC xs) (RM.alloc (.tup xs)) RM.bad) (eval (.Tuple es k p) env) (VR c.ν):=by
 show aJ c ρ₀ _ (standAt p >>= λ_=>spliced (backTo p (starEach es env)) >>= λvs=>newTuple vs) _
 exact aJ.standAt ((ef ok co rm es eo).bind λρ₁ xs vs x1 r1=>sP r1)
end
def yF:Const→Option SV
 | .none=>some .none
 | .bool b=>some (.bool b)
 | .int i=>some (.int (.c i))
 | .str s=>cond (fo s) (some (.str (enc s))) none
 | _=>none
section
variable {c:Cx} {ρ₀:Nm} {env:Env}
theorem aJ.tok {a:SV} {t:Sem Value} {v:Nat→Value} (h:∀ k ρ,VR c.ν ρ a (v k)) (ht:∀ (s:Shared) (Q:Value→Shared→Prop) (E:Value→Shared→Prop),Q (v s.toks) { s with toks:=s.toks+1 }→wpAny c.M c.A t Q E s) :
 aJ c ρ₀ (RM.ret a) t (VR c.ν):=by
 intro σ outs e ρ s x S Q E hQ
 cases e
 exact ht s Q E (hQ a σ ρ _ _ (.head _) (.refl _) (S.toks _) (h _ _) ⟨s.heap,_,rfl⟩)
theorem B3 {k:Const} {n:Nat} {p:Pos}:aJ c ρ₀ (RM.opt (yF k)) (eval (.Constant k n p) env) (VR c.ν):=by
 refine aJ.opt λa e=>?_
 cases k<;>simp only [yF] at e<;>first | (cases e; done) | skip
 ·cases e
  exact aJ.known (v:=Value.none) (R:=VR c.ν) (λρ _=>(rfl:Value.none=Value.none)) λs Q E q=>wpAny_Constant_none q
 ·cases e
  rename_i b
  exact aJ.known (v:=Value.bool b) (R:=VR c.ν) (λρ _=>(rfl:Value.bool b=Value.bool b)) λs Q E q=>wpAny_Constant_bool q
 ·cases e
  exact aJ.tok (v:=λk=>.int _ k) (λk ρ=>⟨k,rfl⟩) λs Q E q=>wpAny_Constant_int q
 ·rename_i s
  cases q:fo s with
  | false=>rw [q] at e; cases e
  | true =>
   rw [q] at e
   cases e
   exact aJ.tok (v:=λk=>.str s k) (λk ρ=>⟨k,by rw [dec_enc q]⟩) λs Q E q=>Constant_str q
end
def RM.made (f:SS→Option SO):RM SV:=λσ=>match f σ with
 | some so=>RM.alloc so σ
 | none=>none
section
variable {c:Cx} {ρ₀:Nm}
theorem aJ.made {f:SS→Option SO} {t:Sem Value}
 (h:∀ σ so,f σ=some so→∀ ρ s,Ext ρ₀ ρ→c.SR ρ σ s→∃ o tk,o.isFreed=false∧OR c.w.params c.ν ρ so o ∧
  ∀ (Q:Value→Shared→Prop) (E:Value→Shared→Prop),Q (.ref s.heap.objs.size) { s with heap:=s.heap.push o,toks:=tk }→wpAny c.M c.A t Q E s):aJ c ρ₀ (RM.made f) t (VR c.ν):=by
 refine aJ.one λσ outs e=>?_
 unfold RM.made at e
 cases q:f σ with
 | none=>rw [q] at e; cases e
 | some so =>
  rw [q] at e
  dsimp only at e
  unfold RM.alloc at e
  cases q2:Nat.blt σ.nx 1024 with
  | false=>rw [q2] at e; cases e
  | true =>
   rw [q2] at e
   cases e
   refine ⟨_,_,rfl,λρ s x S Q E hQ=>?_⟩
   obtain ⟨o,tk,hf,hr,ht⟩:=h σ so q ρ s x S
   have X:=S.ext s.heap.objs.size
   refine ht Q E (hQ _ _ _ X (SR.alloc (a:=s.heap.objs.size) (o:=o) S (aC.mp q2) ?_ (Heap.get?_push_size _ hf) (λb o e=>cK _ e) (hr.mono X) (t:=tk)) ⟨_,by simp [bA],rfl⟩ (.mk _ _ _))
   cases z:s.heap.get? s.heap.objs.size with
   | none=>rfl
   | some o'=>exact absurd (bE z) (Nat.lt_irrefl _)
end
def Tx (σ:SS) (x y:Nat):Option SO:=ob (gL (σ.hp.get x)) λxs=>ob (gL (σ.hp.get y)) λys=>cond (fC (xs++ys)) (some (.list (xs++ys))) none
noncomputable def RM.Tz (n:Nat):RM SV:=λσ=>some ((List.range n).map λ(i:Nat)=>(SV.int (.c (i:Int)),σ))
def Lm (op:Operator) (y:Int):RM SV:=match op with
 | .Add=>cond (decide (0≤y)) (RM.ret .anyN) RM.bad
 | .FloorDiv=>cond (decide (0<y)&&small y) (RM.ret .anyN) RM.bad
 | .Mod=>cond (decide (0<y)) (RM.Tz y.toNat) RM.bad
 | _=>RM.bad
noncomputable def Ah {α:Type} (op:Operator) (x d:α):α:=match op with
 | .Add=>x
 | _=>d
theorem sQ {α:Type} {p:α→Prop} {op:Operator} {x d:α} (h:op=.Add→p x) (hd:p d):p (Ah op x d):=by cases op<;>first | exact hd | exact h rfl
noncomputable def Ln {α:Type} (op:Operator) (x d:α):α:=match op with
 | .Mult=>x
 | _=>d
theorem I5 {α:Type} {p:α→Prop} {op:Operator} {x d:α} (h:op=.Mult→p x) (hd:p d):p (Ln op x d):=by cases op<;>first | exact hd | exact h rfl
def T2 (op:Operator) (a b:SV):RM SV :=
 Y3 a (qU b (λt=>By t (Lm op) RM.bad) (Y3 b (Ah op (RM.ret .anyN) RM.bad) RM.bad))
  (qU a (λu=>IT.rec (motive:=λ_=>RM SV)
   (λx=>Y3 b (Ln op (cond (decide (0≤x)&&small x) (RM.ret .anyN) RM.bad) RM.bad) (qU b (λt=>By t (λy=>RM.opt ((sL op x y).map λr=>.int (.c r))) RM.bad) RM.bad))
   (λn=>qU b (λt=>By t (λy=>Ah op (cond (Nat.beq n 200&&decide (y=1)) (RM.ret (.int (.v 201))) RM.bad) RM.bad) RM.bad) RM.bad) u)
   (qC a (λx=>qC b (λy=>Ah op (RM.made λσ=>Tx σ x y) RM.bad) RM.bad) RM.bad))
section
variable {c:Cx} {ρ₀:Nm} {env:Env}
noncomputable abbrev iY (c:Cx) (ρ₀:Nm) (t:Sem Value) (m:RM SV):Prop:=aJ c ρ₀ m t (VR c.ν)
theorem B4 {op:Operator} {y:Int} {va vb:Value} (ha:VR c.ν ρ₀ .anyN va) (hb:VR c.ν ρ₀ (.int (.c y)) vb):aJ c ρ₀ (Lm op y) (binaryOp op va vb) (VR c.ν):=by
 obtain ⟨i,k,hi,rfl⟩:=ha
 obtain ⟨k',rfl⟩:=hb
 show aJ c ρ₀ _ (binaryOp op (.int i k) (.int y k')) _
 cases op<;>first | exact aJ.bad | skip
 ·refine aJ.guard λq=>?_
  have q:=of_decide_eq_true q
  exact aJ.tok (v:=λk=>.int (i+y) k) (λk ρ=>⟨_,k,Int.add_nonneg hi q,rfl⟩) λs Q E h=>add_int h
 ·refine aJ.guard λq=>?_
  have q:=of_decide_eq_true q
  intro σ outs e ρ s x S Q E hQ
  refine mod_int' (Int.ne_of_gt q) ?_
  have h1:0≤i.fmod y:=Int.fmod_nonneg_of_pos i q
  have h2:i.fmod y<y:=Int.fmod_lt_of_pos i q
  cases e
  have hm:(i.fmod y).toNat<y.toNat:=Int.ofNat_lt.mp (by rw [Int.toNat_of_nonneg h1,Int.toNat_of_nonneg (Int.le_of_lt q)]; exact h2)
  have ht:((i.fmod y).toNat:Int)=i.fmod y:=Int.toNat_of_nonneg h1
  exact hQ (.int (.c (i.fmod y))) σ ρ _ _ (List.mem_map.mpr ⟨(i.fmod y).toNat,List.mem_range.mpr hm,by rw [ht]⟩) (.refl _) (S.toks _) ⟨_,rfl⟩ (.mk _ _ _)
 ·refine aJ.guard λq=>?_
  rw [Bool.and_eq_true] at q
  have q1:=of_decide_eq_true q.1
  have q2:=of_decide_eq_true q.2
  exact aJ.tok (v:=λk=>.int (i.fdiv y) k) (λk ρ=>⟨_,k,Int.fdiv_nonneg hi (Int.le_of_lt q1),rfl⟩) λs Q E h=>floordiv_int (by omega) h (Or.inl (PyProof.noPylong_small (by omega)))
theorem B5 {op:Operator} (eo:op=.Mult) {x:Int} {va vb:Value} (ha:VR c.ν ρ₀ (.int (.c x)) va) (hb:VR c.ν ρ₀ .anyN vb):aJ c ρ₀ (cond (decide (0≤x)&&small x) (RM.ret .anyN) RM.bad) (binaryOp op va vb) (VR c.ν):=by
 subst eo
 obtain ⟨k,rfl⟩:=ha
 obtain ⟨i,k',hi,rfl⟩:=hb
 show aJ c ρ₀ _ (binaryOp .Mult (.int x k) (.int i k')) _
 refine aJ.guard λq=>?_
 rw [Bool.and_eq_true] at q
 have q1:=of_decide_eq_true q.1
 exact aJ.tok (v:=λk=>.int (x * i) k) (λk ρ=>⟨_,k,Int.mul_nonneg q1 hi,rfl⟩) λs Q E h=>mul_int h (PySem.IntMulOk.of_left (nG q.2))
theorem B7 {op:Operator} (eo:op=.Add) {va vb:Value} (ha:VR c.ν ρ₀ .anyN va) (hb:VR c.ν ρ₀ .anyN vb):aJ c ρ₀ (RM.ret .anyN) (binaryOp op va vb) (VR c.ν):=by
 subst eo
 obtain ⟨i,k,hi,rfl⟩:=ha
 obtain ⟨j,k',hj,rfl⟩:=hb
 exact aJ.tok (v:=λk=>.int (i+j) k) (λk ρ=>⟨_,k,Int.add_nonneg hi hj,rfl⟩) λs Q E h=>add_int h
theorem B9 {op:Operator} (eo:op=.Add) {n:Nat} {y:Int} {va vb:Value} (ha:VR c.ν ρ₀ (.int (.v n)) va) (hb:VR c.ν ρ₀ (.int (.c y)) vb):aJ c ρ₀ (cond (Nat.beq n 200&&decide (y=1)) (RM.ret (.int (.v 201))) RM.bad) (binaryOp op va vb) (VR c.ν):=by
 subst eo
 obtain ⟨k,rfl⟩:=ha
 obtain ⟨k',rfl⟩:=hb
 refine aJ.guard λq=>?_
 rw [Bool.and_eq_true] at q
 have q1:=ar q.1
 have q2:=of_decide_eq_true q.2
 subst q1 q2
 exact aJ.tok (v:=λk=>.int (c.ν 200+1) k) (λk ρ=>⟨k,by show Value.int (c.ν 200+1) k=Value.int (c.ν 201) k; rw [c.νs]⟩) λs Q E h=>add_int h
theorem CA {op:Operator} {x y:Int} {va vb:Value} (ha:VR c.ν ρ₀ (.int (.c x)) va) (hb:VR c.ν ρ₀ (.int (.c y)) vb):aJ c ρ₀ (RM.opt ((sL op x y).map λr=>.int (.c r))) (binaryOp op va vb) (VR c.ν):=by
 obtain ⟨k,rfl⟩:=ha
 obtain ⟨k',rfl⟩:=hb
 cases q:sL op x y with
 | none=>exact aJ.bad
 | some r=>exact aJ.tok (v:=λk=>.int r k) (λk ρ=>⟨k,rfl⟩) λs Q E h=>qW q h
theorem CB {op:Operator} (eo:op=.Add) {x y:Nat} {va vb:Value} (ha:VR c.ν ρ₀ (.ref x) va) (hb:VR c.ν ρ₀ (.ref y) vb):aJ c ρ₀ (RM.made λσ=>Tx σ x y) (binaryOp op va vb) (VR c.ν):=by
 subst eo
 obtain ⟨k,hk,rfl⟩:=ha
 obtain ⟨k',hk',rfl⟩:=hb
 refine aJ.made λσ so e ρ s x S=>?_
 refine aS e λxs g1 e=>aS e λys g2 e=>aw e λz e=>?_
 rw [← aD e]
 obtain ⟨vs,n1,h1,h2⟩:=S.list (jG g1) (x _ _ hk)
 obtain ⟨us,n2,h3,h4⟩:=S.list (jG g2) (x _ _ hk')
 have hl:=bK z
 rw [List.length_append,← h2.length,← h4.length] at hl
 refine ⟨bF (vs++us) 0,s.toks,rfl,⟨_,_,rfl,h2.append h4⟩,λQ E q=>?_⟩
 have q':Q (.ref s.heap.objs.size) { s with heap:=s.heap.push { cls:=.type "list",data:=.seq (vs.toArray++us.toArray) } }:=by rw [List.append_toArray]; exact q
 exact P.add_list (items:=vs.toArray) (items2:=us.toArray) h1 h3 q' (by rw [List.size_toArray,List.size_toArray,sizeLine_eq]; omega)
theorem I6 {op:Operator} {a b:SV} {va vb:Value} (ha:VR c.ν ρ₀ a va) (hb:VR c.ν ρ₀ b vb):aJ c ρ₀ (T2 op a b) (binaryOp op va vb) (VR c.ν):=by
 refine Es (p:=iY c ρ₀ (binaryOp op va vb)) (λea=>dm (p:=iY c ρ₀ (binaryOp op va vb)) (λt eb=>fq (p:=iY c ρ₀ (binaryOp op va vb)) (λy ec=>?_) aJ.bad) (Es (p:=iY c ρ₀ (binaryOp op va vb)) (λeb=>?_) aJ.bad))
  (dm (p:=iY c ρ₀ (binaryOp op va vb)) (λu ea=>?_) (dG (p:=iY c ρ₀ (binaryOp op va vb)) (λx ea=>dG (p:=iY c ρ₀ (binaryOp op va vb)) (λy eb=>sQ (p:=iY c ρ₀ (binaryOp op va vb)) (λeo=>?_) aJ.bad) aJ.bad) aJ.bad))
 ·subst ec eb ea
  exact B4 ha hb
 ·subst ea eb
  exact sQ (p:=iY c ρ₀ (binaryOp op va vb)) (λeo=>B7 eo ha hb) aJ.bad
 ·subst ea
  cases u with
  | c x =>
   refine Es (p:=iY c ρ₀ (binaryOp op va vb)) (λeb=>I5 (p:=iY c ρ₀ (binaryOp op va vb)) (λeo=>?_) aJ.bad) (dm (p:=iY c ρ₀ (binaryOp op va vb)) (λt eb=>fq (p:=iY c ρ₀ (binaryOp op va vb)) (λy ec=>?_) aJ.bad) aJ.bad)
   ·subst eb
    exact B5 eo ha hb
   ·subst ec eb
    exact CA ha hb
  | v n =>
   refine dm (p:=iY c ρ₀ (binaryOp op va vb)) (λt eb=>fq (p:=iY c ρ₀ (binaryOp op va vb)) (λy ec=>sQ (p:=iY c ρ₀ (binaryOp op va vb)) (λeo=>?_) aJ.bad) aJ.bad) aJ.bad
   subst ec eb
   exact B9 eo ha hb
 ·subst ea eb
  exact CB eo ha hb
def unS (op:UnaryOp) (a:SV):Option SV:=match op with
 | .USub=>qU a (λt=>By t (λx=>some (.int (.c (-x)))) none) none
 | .Not=>TY a (λb=>some (.bool (!b))) none
 | _=>none
theorem Qg {op:UnaryOp} {a:SV} {va:Value} (ha:VR c.ν ρ₀ a va):aJ c ρ₀ (RM.opt (unS op a)) (unaryOp op va) (VR c.ν):=by
 refine aJ.opt λr=>?_
 cases op<;>first | exact λe=>nS e | skip
 ·refine uI (p:=λq=>q=some r→aJ c ρ₀ (RM.ret r) (unaryOp .Not va) (VR c.ν)) (λb ea e=>?_) λe=>nS e
  subst ea
  rw [← aD e,show va=_ from ha]
  exact aJ.known (v:=Value.bool (!b)) (R:=VR c.ν) (λρ _=>(rfl:Value.bool (!b)=_)) λs Q E q=>not_of (wpAny_truthy_bool q)
 ·refine dm (p:=λq=>q=some r→aJ c ρ₀ (RM.ret r) (unaryOp .USub va) (VR c.ν)) (λt ea=>fq (p:=λq=>q=some r→aJ c ρ₀ (RM.ret r) (unaryOp .USub va) (VR c.ν)) (λx ec e=>?_) λe=>nS e) λe=>nS e
  subst ec ea
  obtain ⟨k,rfl⟩:=ha
  rw [← aD e]
  exact aJ.tok (v:=λk=>.int (-x) k) (λk ρ=>⟨k,rfl⟩) λs Q E h=>P.neg_int h
end
def isNone (a:SV):Option Bool:=Li a (some true) (some false)
def nJ (x:Nat) (xs:List SV):Option Bool:=List.rec (motive:=λ_=>Option Bool) (some false) (λv _ ih=>Ac v (λy=>cond (Nat.beq y x) (some true) ih) none) xs
def Ex (H:Hp) (a b:SV):Option Bool:=qU a (λt=>By t (λx=>qU b (λu=>By u (λy=>some (decide (x=y))) none) none) none) (Ac a (λx=>Ac b (λy=>some (Nat.beq x y)) none)
 (qC a (λx=>qC b (λy=>cond (Nat.beq x y) none (Qe (Y4 20 H) H x y)) none) none))
def nK (xs:List SV):Bool:=List.rec (motive:=λ_=>Bool) true (λv _ ih=>Ac v (λ_=>ih) false) xs
def inD (H:Hp) (x n:Nat):Option Bool:=Option.rec (motive:=λ_=>Option Bool) (ob (gL (H.get n)) λxs=>cond (nK xs) (nJ x xs) none) (λes=>some (lk es x).isSome) (gD (H.get n))
def ZY (kt:List (Nat×List SV)) (H:Hp) (a b:SV):Option Bool:=Ac a (λx=>Ts b (λn=>Option.rec (motive:=λ_=>Option Bool) none (λxs=>cond (nK xs) (nJ x xs) none) (lk kt n)) (qC b (inD H x) none)) none
noncomputable def Qh {α:Type} (op:CmpOp) (x d:α):α:=match op with
 | .LtE=>x
 | _=>d
theorem Ey {α:Type} {p:α→Prop} {op:CmpOp} {x d:α} (h:op=.LtE→p x) (hd:p d):p (Qh op x d):=by cases op<;>first | exact hd | exact h rfl
noncomputable def T7 {α:Type} (op:CmpOp) (x d:α):α:=match op with
 | .GtE=>x
 | _=>d
theorem Qi {α:Type} {p:α→Prop} {op:CmpOp} {x d:α} (h:op=.GtE→p x) (hd:p d):p (T7 op x d):=by cases op<;>first | exact hd | exact h rfl
def Qj (op:CmpOp) (a b:IT):Option Bool:=IT.rec (motive:=λ_=>Option Bool)
 (λx=>IT.rec (motive:=λ_=>Option Bool) (λy=>cmpInt op x y) (λn=>Qh op (cond (Nat.blt n 100&&decide (x≤-9)) (some true) none) none) b)
 (λn=>IT.rec (motive:=λ_=>Option Bool) (λy=>Qh op (cond (Nat.blt n 100&&decide (9≤y)) (some true) none) (T7 op (cond (Nat.blt n 100&&decide (y≤-9)) (some true) none) none)) (λ_=>none) b) a
def yG (kt:List (Nat×List SV)) (H:Hp) (op:CmpOp) (a b:SV):Option Bool:=match op with
 | .Eq=>Ex H a b
 | .NotEq=>(Ex H a b).map (!·)
 | .Is=>Li b (isNone a) none
 | .IsNot=>Li b ((isNone a).map (!·)) none
 | .In=>ZY kt H a b
 | .NotIn=>(ZY kt H a b).map (!·)
 | op=>qU a (λx=>qU b (λy=>Qj op x y) none) none
section
variable {c:Cx} {ρ₀:Nm} {env:Env} {K:Frag} {mg mb:Str→Option Value}
theorem qd {ν:Nat→Int} {ρ:Nm} {a:SV} {v:Value} {b:Bool} (e:isNone a=some b) (h:VR ν ρ a v):(v == .none)=b:=by
 cases a<;>obtain rfl:=aD e
 case int | str=>exact h.elim λk w=>by rw [w]; rfl
 case ref=>exact h.elim λk w=>by rw [w.2]; rfl
 case anyN=>exact h.elim λi w=>w.elim λk w=>by rw [w.2]; rfl
 all_goals rw [show v=_ from h]; rfl
def ig (x:Nat):Value→Bool
 | .str y _=>y == dec x
 | _=>false
theorem sR {m m':Nat}:(dec m == dec m')=Nat.beq m m':=by
 cases q:Nat.beq m m' with
 | true=>rw [ar q]; simp
 | false =>
  have:dec m≠dec m':=λz=>by rw [fX z,Nat.beq_refl] at q; cases q
  exact beq_eq_false_iff_ne.mpr this
theorem CC {ν:Nat→Int} {ρ:Nm} {x:Nat} {xs:List SV} {vs:List Value} {b:Bool} (e:nJ x xs=some b) (q:bX ν ρ xs vs):vs.any (ig x)=b:=by
 refine q.ind (motive:=λxs vs=>∀ b,nJ x xs=some b→vs.any (ig x)=b) (λb e=>aD e) (λy xs v vs h _ ih b=>?_) b e
 refine fp (p:=λq=>q=some b→(v::vs).any (ig x)=b) (λy ey e=>?_) λe=>nS e
 subst ey
 obtain ⟨k,rfl⟩:=h
 show ((dec y == dec x) || _)=b
 rw [sR]
 cases q:Nat.beq y x with
 | true=>rw [q] at e; exact aD e
 | false=>rw [q] at e; exact ih b e
theorem CD {ν:Nat→Int} {ρ:Nm} {xs:List SV} {vs:List Value} (e:nK xs=true) (q:bX ν ρ xs vs):∀ v∈vs,∃ y k,v=.str y k:=by
 refine q.ind (motive:=λxs vs=>nK xs=true→∀ v∈vs,∃ y k,v=.str y k) (λ_ _ h=>nomatch h) (λy xs v vs h _ ih=>?_) e
 refine fp (p:=λq=>q=true→∀ u∈v::vs,∃ y k,u=.str y k) (λy ey e u hu=>memC hu ?_ (ih e u)) λe=>nomatch e
 subst ey
 exact h.elim λk w=>⟨_,k,w⟩
theorem Ez {A:Around} {s:Shared} {x:Nat} {t:Tok} {v:Value} (h:∃ y k,v=.str y k):EqAt A s v (.str (dec x) t) (ig x v):=by
 obtain ⟨y,k,rfl⟩:=h
 exact EqAt.str_str _ _ _ _
noncomputable def yH (hG:Heap) (kt:List (Nat×List SV)):Prop:=∀ a xs,lk kt a=some xs→∃ vs k,hG.get? a=some (ej vs k)∧∀ ν ρ,bX ν ρ xs vs
structure Lp (c:Cx) (o o':CmpOp) (s:Shared) (va vb:Value) (r:Bool):Prop where
 y:∀ (Q E:Value→Shared→Prop),Q (.bool r) s→wpAny c.M c.A (compareOp o va vb) Q E s
 n:∀ (Q E:Value→Shared→Prop),Q (.bool (!r)) s→wpAny c.M c.A (compareOp o' va vb) Q E s
noncomputable def yA (c:Cx) (s:Shared) (va vb:Value) (r:Bool) (o:Option Bool):Prop:=o=some r→Lp c .Eq .NotEq s va vb r
theorem yA.no {s:Shared} {va vb:Value} {r:Bool}:yA c s va vb r none:=λe=>nomatch e
theorem uM {σ:SS} {s:Shared} {ρ:Nm} {a b:SV} {va vb:Value} {r:Bool} (S:c.SR ρ σ s) (hu:c.A.units+60<cLine) (e:Ex σ.hp a b=some r) (ha:VR c.ν ρ a va) (hb:VR c.ν ρ b vb):Lp c .Eq .NotEq s va vb r:=by
 revert e
 refine dm (p:=yA c s va vb r) (λt ea=>fq (p:=yA c s va vb r) (λx et=>dm (p:=yA c s va vb r) (λu eb=>fq (p:=yA c s va vb r) (λy eu e=>?_) yA.no) yA.no) yA.no) (fp (p:=yA c s va vb r) (λx ea=>fp (p:=yA c s va vb r) (λy eb e=>?_) yA.no)
  (dG (p:=yA c s va vb r) (λx ea=>dG (p:=yA c s va vb r) (λy eb e=>?_) yA.no) yA.no))
 ·subst eu et ea eb
  obtain ⟨k,rfl⟩:=ha
  obtain ⟨k',rfl⟩:=hb
  cases e
  exact ⟨λQ E q=>iF (op:=.Eq) rfl q,λQ E q=>iF (op:=.NotEq) rfl q⟩
 ·subst ea eb
  obtain ⟨k,rfl⟩:=ha
  obtain ⟨k',rfl⟩:=hb
  cases e
  refine ⟨λQ E q=>PyProof.Rows.eq_str (by rw [sR]; exact q),λQ E q=>PyProof.Rows.ne_str ?_⟩
  have:(dec x != dec y)=!Nat.beq x y:=by rw [← sR]; rfl
  rw [this]; exact q
 ·subst ea eb
  obtain ⟨k,hk,rfl⟩:=ha
  obtain ⟨k',hk',rfl⟩:=hb
  cases q:Nat.beq x y with
  | true=>rw [q] at e; exact nS e
  | false =>
   rw [q] at e
   have e:Et (Y4 20 σ.hp) σ.hp x y r:=qX e
   have hu1:c.A.units<cLine:=Nat.lt_of_le_of_lt (Nat.le_add_right _ _) hu
   rcases e with ⟨xs,ys,g1,g2,hl,e⟩ | ⟨xs,ys,g1,g2,hl,rfl⟩<;>obtain ⟨vs,n1,h1,h2⟩:=S.list g1 hk<;>obtain ⟨us,n2,h3,h4⟩:=S.list g2 hk'
   ·obtain ⟨f,f1,f2⟩:=Ae (A:=c.A.in1) (s:=s) (λx' y' v u b z v1 v2=>Qf S 20 z v1 v2 (by show c.A.units+1+20<cLine; omega)) e h2 h4
    have hsz:=h2.length.trans (hl.trans h4.length.symm)
    have f1:∀ j (g1:j<vs.toArray.size) (g2:j<us.toArray.size),EqAt c.A.in1 s vs.toArray[j] us.toArray[j] (f j):=λj g1 g2=>by simpa using f1 j g1 g2
    have z1:=RcAt.lists (A:=c.A) (e:=f) (ao h1) (ao h3) hsz hu1 f1
    have z2:=RcNeAt.lists (A:=c.A) (e:=f) (ao h1) (ao h3) hsz hu1 f1
    rw [List.size_toArray,f2] at z1 z2
    exact ⟨λQ E q=>z1 c.prog c.w E Q q,λQ E q=>z2 c.prog c.w E Q q⟩
   ·have hsz:(vs.toArray.size != us.toArray.size)=true:=by simp [h2.length,h4.length,hl]
    have z1:=RcAt.lists_lengths (A:=c.A) (ao h1) (ao h3) hsz hu1
    have z2:=RcNeAt.lists_lengths (A:=c.A) (ao h1) (ao h3) hsz hu1
    exact ⟨λQ E q=>z1 c.prog c.w E Q q,λQ E q=>z2 c.prog c.w E Q q⟩
structure Lq (c:Cx) (s:Shared) (va vb:Value) (r:Bool):Prop where
 y:∀ (Q E:Value→Shared→Prop),(∀ t,Q (.bool r) { s with toks:=t })→wpAny c.M c.A (compareOp .In va vb) Q E s
 n:∀ (Q E:Value→Shared→Prop),(∀ t,Q (.bool (!r)) { s with toks:=t })→wpAny c.M c.A (compareOp .NotIn va vb) Q E s
noncomputable def Qk (c:Cx) (s:Shared) (va vb:Value) (r:Bool) (o:Option Bool):Prop:=o=some r→Lq c s va vb r
theorem Qk.no {s:Shared} {va vb:Value} {r:Bool}:Qk c s va vb r none:=λe=>nomatch e
theorem qe {ν:Nat→Int} {ρ:Nm} {xs:List SV} {vs:List Value} {x:Nat} {r:Bool} (e:cond (nK xs) (nJ x xs) none=some r) (h:bX ν ρ xs vs) (s:Shared) (k:Tok) :
 (∀ y,y∈vs.toArray→EqAt c.A.in1 s y (.str (dec x) k) (ig x y))∧vs.toArray.any (ig x)=r:=by
 exact aw e λz e=>⟨λy hy=>Ez (CD z h y (List.mem_toArray.mp hy)),by rw [List.any_toArray]; exact CC e h⟩
theorem E0 {kt:List (Nat×List SV)} {σ:SS} {s:Shared} {ρ:Nm} {a b:SV} {va vb:Value} {r:Bool} (G:Gd K mg mb c.hG) (hk:yH c.hG kt) (S:c.SR ρ σ s) (e:ZY kt σ.hp a b=some r) (ha:VR c.ν ρ a va) (hb:VR c.ν ρ b vb) :
 Lq c s va vb r:=by
 revert e
 refine fp (p:=Qk c s va vb r) (λx ea=>Ad (p:=Qk c s va vb r) (λn eb e=>?_) (dG (p:=Qk c s va vb r) (λn eb e=>?_) Qk.no)) Qk.no<;>subst ea eb
 ·obtain ⟨k,rfl⟩:=ha
  cases hb
  cases q:lk kt n with
  | none=>rw [q] at e; cases e
  | some xs =>
   rw [q] at e
   obtain ⟨vs,m,h1,h2⟩:=hk _ _ q
   have h3:=S.br _ _ h1
   obtain ⟨he,ha⟩:=qe (c:=c) e (h2 c.ν ρ) s k
   exact ⟨λQ E q=>in_tupleAt (ig x) (eO h3) he (by rw [ha]; exact q s.toks),λQ E q=>notIn_tupleAt (ig x) (eO h3) he (by rw [ha]; exact q s.toks)⟩
 ·obtain ⟨k,rfl⟩:=ha
  obtain ⟨ad,hn,rfl⟩:=hb
  unfold inD at e
  cases q:gD (σ.hp.get n) with
  | some es =>
   rw [q] at e
   replace q:=sJ q
   rw [← aD e]
   obtain ⟨es',m,h1,h2⟩:=S.dict q hn
   have hf:=h2.find x
   have hs:(findBy Value.isStrOf es'.toArray (dec x)).isSome=(lk es x).isSome:=by
    rw [gH]
    cases z:lk es x with
    | none=>rw [z] at hf; dsimp only at hf; rw [hf]; rfl
    | some sv=>rw [z] at hf; obtain ⟨v,g1,g2⟩:=hf; rw [g1]; rfl
   have hm:=nH (prog:=c.prog) h1 h2
   have hd:=S.me G q hn
   exact ⟨λQ E q=>wpAny_in_of (strKind_is c.prog c.w _ _) hd hm (by rw [hs]; exact q _),λQ E q=>wpAny_notIn_of (strKind_is c.prog c.w _ _) hd hm (by rw [hs]; exact q _)⟩
  | none =>
   rw [q] at e
   refine aS (o:=gL (σ.hp.get n)) e λxs q e=>?_
   obtain ⟨vs,m,h1,h2⟩:=S.list (jG q) hn
   obtain ⟨he,ha⟩:=qe (c:=c) e h2 s k
   exact ⟨λQ E q=>in_listAt (ig x) (ao h1) he (by rw [ha]; exact q s.toks),λQ E q=>notIn_listAt (ig x) (ao h1) he (by rw [ha]; exact q s.toks)⟩
theorem I7 {ν:Nat→Int} (hb:∀ n,n<100→-9≤ν n∧ν n≤9) {op:CmpOp} {a b:IT} {r:Bool}:Qj op a b=some r→cmpInt op (a.ev ν) (b.ev ν)=some r:=by
 cases a with
 | c x =>
  cases b with
  | c y=>exact λe=>e
  | v n =>
   refine Ey (p:=λq=>q=some r→cmpInt op x (ν n)=some r) (λeo e=>aw e λq e=>dW q λq1 q2=>?_) λe=>nS e
   rw [eo,← aD e]
   exact congrArg some (decide_eq_true (Int.le_trans (of_decide_eq_true q2) (hb n (aC.mp q1)).1))
 | v n =>
  cases b with
  | c y =>
   refine Ey (p:=λq=>q=some r→cmpInt op (ν n) y=some r) (λeo e=>aw e λq e=>dW q λq1 q2=>?_) (Qi (p:=λq=>q=some r→cmpInt op (ν n) y=some r) (λeo e=>aw e λq e=>dW q λq1 q2=>?_) λe=>nS e)
   ·rw [eo,← aD e]
    exact congrArg some (decide_eq_true (Int.le_trans (hb n (aC.mp q1)).2 (of_decide_eq_true q2)))
   ·rw [eo,← aD e]
    exact congrArg some (decide_eq_true (Int.le_trans (of_decide_eq_true q2) (hb n (aC.mp q1)).1))
  | v m=>exact λe=>nS e
theorem mh {kt:List (Nat×List SV)} {op:CmpOp} {a b:SV} {va vb:Value} (G:Gd K mg mb c.hG) (hk:yH c.hG kt) (hu:c.A.units+60<cLine) (ha:VR c.ν ρ₀ a va) (hb:VR c.ν ρ₀ b vb) :
 aJ c ρ₀ (RM.look λσ=>yG kt σ.hp op a b) (compareOp op va vb) (λ_ b v=>v=.bool b):=by
 refine aJ.look λσ r e ρ s x S Q E hQ=>?_
 replace ha:=ha.mono x
 replace hb:=hb.mono x
 have here:Q (.bool r) s:=hQ s _ S rfl (.refl _)
 have hint:∀ op',qU a (λx=>qU b (λy=>Qj op' x y) none) none=some r→wpAny c.M c.A (compareOp op' va vb) Q E s:=λop'=>by
  refine dm (p:=λq=>q=some r→wpAny c.M c.A (compareOp op' va vb) Q E s) (λx ea=>dm (p:=λq=>q=some r→wpAny c.M c.A (compareOp op' va vb) Q E s) (λy eb e'=>?_) λe=>nS e) λe=>nS e
  subst ea eb
  obtain ⟨k,rfl⟩:=ha
  obtain ⟨k',rfl⟩:=hb
  exact iF (I7 c.νb e') here
 cases op
 ·exact (uM S hu e ha hb).y Q E here
 ·obtain ⟨r',e1,e2⟩:=bY e
  exact (uM S hu e1 ha hb).n Q E (by rw [e2]; exact here)
 ·exact hint _ e
 ·exact hint _ e
 ·exact hint _ e
 ·exact hint _ e
 ·revert e
  refine qV (p:=λq=>q=some r→wpAny c.M c.A (compareOp .Is va vb) Q E s) (λeb e=>?_) λe=>nS e
  subst eb
  rw [show vb=_ from hb]
  refine is_none_gen ?_
  rw [qd e ha]; exact here
 ·revert e
  refine qV (p:=λq=>q=some r→wpAny c.M c.A (compareOp .IsNot va vb) Q E s) (λeb e=>?_) λe=>nS e
  subst eb
  rw [show vb=_ from hb]
  obtain ⟨r',e1,e2⟩:=bY e
  refine isnot_none_gen ?_
  rw [qd e1 ha,e2]; exact here
 ·exact (E0 G hk S e ha hb).y Q E λt=>hQ _ _ (S.toks t) rfl ⟨s.heap,_,rfl⟩
 ·obtain ⟨r',e1,e2⟩:=bY e
  exact (E0 G hk S e1 ha hb).n Q E λt=>by rw [e2]; exact hQ _ _ (S.toks t) rfl ⟨s.heap,_,rfl⟩
end
def iH (kt:List (Nat×List SV)) (lo:Lo) (ce:CE) (l:SV) (ops:List CmpOp) (es:List Expr):RM Bool :=
 List.rec (motive:=λ_=>SV→List Expr→RM Bool) (λ_ _=>RM.bad) (λop ops ih l es=>List.rec (motive:=λ_=>RM Bool) RM.bad (λe es _=>List.rec (motive:=λ_=>RM Bool)
  (List.rec (motive:=λ_=>RM Bool) (cond (behindInMarks op e) RM.bad (RM.az (lo.E ce e) λr=>RM.look λσ=>yG kt σ.hp op l r)) (λ_ _ _=>RM.bad) es)
  (λ_ _ _=>List.rec (motive:=λ_=>RM Bool) RM.bad (λ_ _ _=>RM.az (lo.E ce e) λr=>RM.az (RM.look λσ=>yG kt σ.hp op l r) λb=>cond b (ih r es) (RM.ret false)) es) ops) es) ops l es
def ZZ {α:Type} (op:BoolOp) (b:Bool) (f t go:α):α:=BoolOp.rec (motive:=λ_=>α) (Bool.rec (motive:=λ_=>α) f go b) (Bool.rec (motive:=λ_=>α) go t b) op
def T9 (lo:Lo) (ce:CE) (op:BoolOp) (es:List Expr):RM SV :=
 List.rec (motive:=λ_=>RM SV) RM.bad (λe r ih=>List.rec (motive:=λ_=>RM SV) (lo.E ce e) (λ_ _ _=>RM.az (lo.E ce e) λv=>TY v (λb=>ZZ op b (RM.ret (.bool false)) (RM.ret (.bool true)) ih) RM.bad) r) es
def E6 (lo:Lo) (ce:CE) (op:BoolOp) (es:List Expr):RM Bool :=
 List.rec (motive:=λ_=>RM Bool) (RM.ret (op == .And)) (λe _ ih=>RM.az (lo.B ce e) λb=>ZZ op b (RM.ret false) (RM.ret true) ih) es
def yI (a:SV):Option Bool:=TY a some none
section
variable {D:Ds} {n:Nat} {lo:Lo} {c:Cx} {ρ₀:Nm} {ce:CE} {env:Env} {K:Frag} {mg mb:Str→Option Value} {kt:List (Nat×List SV)}
theorem CF {a:SV} {v:Value} (h:VR c.ν ρ₀ a v):aJ c ρ₀ (RM.opt (yI a)) (truthy v) (λ_ b v=>v=b):=by
 refine aJ.opt λb=>uI (p:=λq=>q=some b→aJ c ρ₀ (RM.ret b) (truthy v) (λ_ b v=>v=b)) (λb' ea e=>?_) λe=>nS e
 subst ea
 rw [show v=_ from h,aD e]
 exact aJ.known (R:=λ_ b v=>v=b) (λ_ _=>rfl) λs Q E q=>wpAny_truthy_bool q
theorem chain_snd (ok:bR D n lo) (co:c.Of D) (rm:Rm c n) (G:Gd K mg mb c.hG) (hk:yH c.hG kt) {p:Pos} (ops:List CmpOp):∀ (es:List Expr) {ρ₀:Nm} {env:Env} {l:SV} {vl:Value},aG c ρ₀ ce env→VR c.ν ρ₀ l vl →
 aJ c ρ₀ (iH kt lo ce l ops es) (compareChain p vl ops (markedEach ops es (evalEach es env))) (λ_ b v=>v=.bool b):=by
 induction ops with
 | nil=>exact λ_ _ _ _ _ _ _=>aJ.bad
 | cons op ops ih =>
  intro es ρ₀ env l vl eo hl
  cases es with
  | nil=>exact aJ.bad
  | cons e es =>
   cases ops with
   | nil =>
    cases es with
    | cons=>exact aJ.bad
    | nil =>
     show aJ c ρ₀ (cond (behindInMarks op e) RM.bad (RM.az (lo.E ce e) λr=>RM.look λσ=>yG kt σ.hp op l r)) _ _
     cases hm:behindInMarks op e with
     | true=>exact aJ.bad
     | false =>
      show aJ c ρ₀ _ (holding [vl] (markedBehindIn op e (eval e env)) >>= λrv=>standAt p >>= λ_=>operate [vl,rv] (compareOp op vl rv)) _
      rw [markedBehindIn_of_false hm,cond_false]
      refine ((ok.E c ρ₀ ce env e co rm eo).holding).bind λρ₁ x v x1 r1=>aJ.standAt ?_
      refine (mh G hk (by have:=rm.units; omega) (hl.mono x1) r1).to λQ E s h=>wpAny_operate' h
   | cons op2 ops =>
    cases es with
    | nil=>exact aJ.bad
    | cons e2 es =>
     show aJ c ρ₀ (RM.az (lo.E ce e) λr=>RM.az (RM.look λσ=>yG kt σ.hp op l r) λb=>cond b (iH kt lo ce r (op2::ops) (e2::es)) (RM.ret false)) (holding [vl] (eval e env) >>= λrv=>standAt p >>= λ_=>holding [vl,rv] (compareOp op vl rv) >>= λcc=>release [vl,rv] [cc] >>= λ_=>holding [cc,rv] (truthy cc) >>= λt =>
      if t=true then compareChain p rv (op2::ops) (markedEach (op2::ops) (e2::es) (evalEach (e2::es) env)) else pure cc) _
     refine ((ok.E c ρ₀ ce env e co rm eo).holding).bind λρ₁ x v x1 r1=>aJ.standAt ?_
     refine (aJ.holding (mh G hk (by have:=rm.units; omega) (hl.mono x1) r1)).bind λρ₂ b v2 x2 r2=>?_
     subst r2
     refine aJ.to ?_ λQ E s h=>aF (wpAny_release (aF (cL (wpAny_truthy_bool h))))
     cases b with
     | true=>exact ih (e2::es) (eo.mono (x1.trans x2)) (r1.mono x2)
     | false=>exact aJ.known (v:=Value.bool false) (R:=λ_ b v=>v=Value.bool b) (λ_ _=>rfl) λs Q E q=>aP q
theorem qG (ok:bR D n lo) (co:c.Of D) (rm:Rm c n) (G:Gd K mg mb c.hG) (hk:yH c.hG kt) {p:Pos} (ops:List CmpOp):∀ (es:List Expr) {ρ₀:Nm} {env:Env} {l:SV} {vl:Value},aG c ρ₀ ce env→VR c.ν ρ₀ l vl →
 aJ c ρ₀ (iH kt lo ce l ops es) (testChain p vl ops (markedEach ops es (evalEach es env))) (λ_ b v=>v=b):=by
 induction ops with
 | nil=>exact λ_ _ _ _ _ _ _=>aJ.bad
 | cons op ops ih =>
  intro es ρ₀ env l vl eo hl
  cases es with
  | nil=>exact aJ.bad
  | cons e es =>
   cases ops with
   | nil =>
    cases es with
    | cons=>exact aJ.bad
    | nil =>
     show aJ c ρ₀ (cond (behindInMarks op e) RM.bad (RM.az (lo.E ce e) λr=>RM.look λσ=>yG kt σ.hp op l r)) _ _
     cases hm:behindInMarks op e with
     | true=>exact aJ.bad
     | false =>
      show aJ c ρ₀ _ (holding [vl] (markedBehindIn op e (eval e env)) >>= λrv=>standAt p >>= λ_=>operate [vl,rv] (compareOp op vl rv) >>= λcc=>holding [cc] (truthy cc)) _
      rw [markedBehindIn_of_false hm,cond_false]
      refine ((ok.E c ρ₀ ce env e co rm eo).holding).bind λρ₁ x v x1 r1=>aJ.standAt ?_
      have h0:=mh G hk (op:=op) (by have:=rm.units; omega) (hl.mono x1) r1
      intro σ outs e ρ s x' S Q E hQ
      refine aF (wpAny_operate' (h0 σ outs e ρ s x' S _ E λy σ' ρ' s' u hm' x'' S' r' sm=>?_))
      subst r'
      exact cL (wpAny_truthy_bool (hQ y σ' ρ' s' y hm' x'' S' rfl sm))
   | cons op2 ops =>
    cases es with
    | nil=>exact aJ.bad
    | cons e2 es =>
     show aJ c ρ₀ (RM.az (lo.E ce e) λr=>RM.az (RM.look λσ=>yG kt σ.hp op l r) λb=>cond b (iH kt lo ce r (op2::ops) (e2::es)) (RM.ret false)) (holding [vl] (eval e env) >>= λrv=>standAt p >>= λ_=>holding [vl,rv] (compareOp op vl rv) >>= λcc=>release [vl,rv] [cc] >>= λ_=>holding [cc,rv] (truthy cc) >>= λt =>
      if t=true then testChain p rv (op2::ops) (markedEach (op2::ops) (e2::es) (evalEach (e2::es) env)) else pure false) _
     refine ((ok.E c ρ₀ ce env e co rm eo).holding).bind λρ₁ x v x1 r1=>aJ.standAt ?_
     refine (aJ.holding (mh G hk (by have:=rm.units; omega) (hl.mono x1) r1)).bind λρ₂ b v2 x2 r2=>?_
     subst r2
     refine aJ.to ?_ λQ E s h=>aF (wpAny_release (aF (cL (wpAny_truthy_bool h))))
     cases b with
     | true=>exact ih (e2::es) (eo.mono (x1.trans x2)) (r1.mono x2)
     | false=>exact aJ.known (R:=λ_ b v=>v=b) (λ_ _=>rfl) λs Q E q=>aP q
noncomputable def Za (op:BoolOp) (t:Bool) (a b:Prop):Prop:=match op,t with
 | .And,false=>a
 | .Or,true=>a
 | _,_=>b
theorem Ql (ok:bR D n lo) (co:c.Of D) (rm:Rm c n) {p:Pos} {op:BoolOp} (es:List Expr):∀ {ρ₀:Nm} {env:Env},aG c ρ₀ ce env →
 aJ c ρ₀ (T9 lo ce op es) (eval (.BoolOp op es p) env) (VR c.ν):=by
 induction es with
 | nil=>exact λ_=>aJ.bad
 | cons e r ih =>
  intro ρ₀ env eo
  cases r with
  | nil=>exact (ok.E c ρ₀ ce env e co rm eo).to λQ E s h=>BoolOp_one h
  | cons e2 r =>
   refine a0.snd (W:=λQ E s=>wpAny c.M c.A (eval e env) (λv s₁=>wpAny c.M c.A (truthy v) (λt s₂=>Za op t (Q v s₂) (wpAny c.M c.A (eval (.BoolOp op (e2::r) p) env) Q E s₂)) E s₁) E s)
    (((ok.E c ρ₀ ce env e co rm eo).w).bind (W':=λv Q E s₁=>wpAny c.M c.A (truthy v) (λt s₂=>Za op t (Q v s₂) (wpAny c.M c.A (eval (.BoolOp op (e2::r) p) env) Q E s₂)) E s₁) λρ₁ x v x1 r1=>?_) ?_
   ·refine uI (p:=λm=>a0 c ρ₁ m (λQ E s₁=>wpAny c.M c.A (truthy v) (λt s₂=>Za op t (Q v s₂) (wpAny c.M c.A (eval (.BoolOp op (e2::r) p) env) Q E s₂)) E s₁) (VR c.ν)) (λb eb=>?_) a0.bad
    subst eb
    rw [show v=_ from r1]
    replace ih:=ih (eo.mono x1)
    cases b<;>cases op
    ·exact a0.to (W:=λQ E s=>Q (Value.bool false) s) (a0.ret (a:=SV.bool false) (v:=Value.bool false) (R:=VR c.ν) (λ_ _=>(rfl:Value.bool false=_))) λQ E s h=>wpAny_truthy_bool h
    ·exact a0.to ih.w λQ E s h=>wpAny_truthy_bool h
    ·exact a0.to ih.w λQ E s h=>wpAny_truthy_bool h
    ·exact a0.to (W:=λQ E s=>Q (Value.bool true) s) (a0.ret (a:=SV.bool true) (v:=Value.bool true) (R:=VR c.ν) (λ_ _=>(rfl:Value.bool true=_))) λQ E s h=>wpAny_truthy_bool h
   ·intro Q E s h
    cases op with
    | And =>
     refine BoolOp_and (bI h (λv s₁ h₁=>bI h₁ (λt s₂ h₂=>?_) λ_ _ x=>x) λ_ _ x=>x)
     cases t<;>exact h₂
    | Or =>
     refine BoolOp_or (bI h (λv s₁ h₁=>bI h₁ (λt s₂ h₂=>?_) λ_ _ x=>x) λ_ _ x=>x)
     cases t<;>exact h₂
set_option backward.match.sparseCases true in
theorem I8 (ok:bR D n lo) (co:c.Of D) (rm:Rm c n) {op:BoolOp} (es:List Expr):∀ {ρ₀:Nm} {env:Env},aG c ρ₀ ce env →
 aJ c ρ₀ (E6 lo ce op es) (allTrue op es env) (λ_ b v=>v=b):=by
 induction es with
 | nil=>exact λ_=>aJ.known (R:=λ_ b v=>v=b) (λ_ _=>rfl) λs Q E q=>aP q
 | cons e r ih =>
  intro ρ₀ env eo
  show aJ c ρ₀ (RM.az (lo.B ce e) λb=>ZZ op b (RM.ret false) (RM.ret true) (E6 lo ce op r)) (isTrue e env (eval e env) >>= λt=>match op,t with
   | .And,false=>pure false
   | .Or,true=>pure true
   | _,_=>allTrue op r env) _
  refine (ok.B c ρ₀ ce env e co rm eo).bind λρ₁ b v x1 r1=>?_
  subst r1
  replace ih:=ih (eo.mono x1)
  cases v<;>cases op
  ·exact aJ.known (R:=λ_ b v=>v=b) (λ_ _=>rfl) λs Q E q=>aP q
  ·exact ih
  ·exact ih
  ·exact aJ.known (R:=λ_ b v=>v=b) (λ_ _=>rfl) λs Q E q=>aP q
end
def Lr (kt:List (Nat×List SV)) (lo:Lo) (ce:CE) (e:Expr):RM Bool:=match e with
 | .UnaryOp .Not x _=>RM.az (lo.B ce x) λb=>RM.ret (!b)
 | .BoolOp op vs _=>E6 lo ce op vs
 | .IfExp t a b _=>RM.az (lo.B ce t) λr=>cond r (lo.B ce a) (lo.B ce b)
 | .Compare l ops cs _=>RM.az (lo.E ce l) λlv=>iH kt lo ce lv ops cs
 | .UnaryOp _ _ _=>RM.bad
 | e=>RM.az (lo.E ce e) λv=>RM.opt (yI v)
section
variable {D:Ds} {n:Nat} {lo:Lo} {c:Cx} {ρ₀:Nm} {ce:CE} {env:Env} {K:Frag} {mg mb:Str→Option Value} {kt:List (Nat×List SV)}
theorem Qm (ok:bR D n lo) (co:c.Of D) (rm:Rm c n) (eo:aG c ρ₀ ce env) {e:Expr} (he:isTrue e env (eval e env)=(do let v ← eval e env; standAt e.pos; holding [v] (truthy v))) :
 aJ c ρ₀ (RM.az (lo.E ce e) λv=>RM.opt (yI v)) (isTrue e env (eval e env)) (λ_ b v=>v=b):=by
 rw [he]
 exact (ok.E c ρ₀ ce env e co rm eo).bind λρ₁ x v x1 r1=>aJ.standAt (aJ.holding (CF r1))
theorem CG (ok:bR D n lo) (co:c.Of D) (rm:Rm c n) (G:Gd K mg mb c.hG) (hk:yH c.hG kt) (eo:aG c ρ₀ ce env) (e:Expr) :
 aJ c ρ₀ (Lr kt lo ce e) (isTrue e env (eval e env)) (λ_ b v=>v=b):=by
 cases e<;>first | exact Qm ok co rm eo rfl | skip
 ·rename_i op vs p
  exact I8 ok co rm vs eo
 ·rename_i op x p
  cases op<;>first | exact aJ.bad | skip
  show aJ c ρ₀ _ (isTrue x env (eval x env) >>= λb=>pure (!b)) _
  exact (ok.B c ρ₀ ce env x co rm eo).bind λρ₁ b v x1 r1=>aJ.ret λρ x=>by rw [r1]
 ·rename_i t a b p
  show aJ c ρ₀ (RM.az (lo.B ce t) λr=>cond r (lo.B ce a) (lo.B ce b)) (isTrue t env (eval t env) >>= λr=>if r=true then isTrue a env (eval a env) else isTrue b env (eval b env)) _
  refine (ok.B c ρ₀ ce env t co rm eo).bind λρ₁ r v x1 r1=>?_
  subst r1
  cases v with
  | true=>exact ok.B c ρ₁ ce env a co rm (eo.mono x1)
  | false=>exact ok.B c ρ₁ ce env b co rm (eo.mono x1)
 ·rename_i l ops cs p
  show aJ c ρ₀ _ (eval l env >>= λlv=>testChain p lv ops (markedEach ops cs (evalEach cs env))) _
  exact (ok.E c ρ₀ ce env l co rm eo).bind λρ₁ x v x1 r1=>qG ok co rm G hk ops cs (eo.mono x1) r1
end
section
variable {c:Cx} {ρ₀:Nm}
theorem iI {f:SS→Option SO} {σ:SS} {outs:List (SV×SS)} (e:RM.made f σ=some outs):∃ so,f σ=some so∧σ.nx<1024∧outs=[(.ref σ.nx,{ σ with hp:=σ.hp.put σ.nx so,nx:=σ.nx+1 })]:=by
 unfold RM.made at e
 cases q:f σ with
 | none=>rw [q] at e; exact nS e
 | some so =>
  rw [q] at e
  exact aw (b:=Nat.blt σ.nx 1024) (o:=some _) e λq2 e=>⟨so,rfl,aC.mp q2,(aD e).symm⟩
theorem iJ {σ:SS} {so:SO} {ρ:Nm} {s:Shared} {o:Obj} {tk:Nat} (S:c.SR ρ σ s) (hx:σ.nx<1024) (hf:o.isFreed=false) (hr:OR c.w.params c.ν ρ so o) {Q:Value→Shared→Prop}
 (hQ:∀ ρ' s' v,Ext ρ ρ'→c.SR ρ' { σ with hp:=σ.hp.put σ.nx so,nx:=σ.nx+1 } s'→VR c.ν ρ' (.ref σ.nx) v→aT s s'→Q v s'):Q (.ref s.heap.objs.size) { s with heap:=s.heap.push o,toks:=tk }:=by
 have X:=S.ext s.heap.objs.size
 refine hQ _ _ _ X (SR.alloc (a:=s.heap.objs.size) (o:=o) S hx ?_ (Heap.get?_push_size _ hf) (λb o e=>cK _ e) (hr.mono X) (t:=tk)) ⟨_,by simp [bA],rfl⟩ (.mk _ _ _)
 cases z:s.heap.get? s.heap.objs.size with
 | none=>rfl
 | some o'=>exact absurd (bE z) (Nat.lt_irrefl _)
end
noncomputable def iK:Expr→Bool
 | .Slice _ _ _ _=>false
 | _=>true
section
variable {D:Ds} {n:Nat} {lo:Lo} {c:Cx} {ρ₀:Nm} {ce:CE} {env:Env}
theorem nL {sl:Expr} (h:iK sl=true) (o i:Value):subscripted sl false o i=operate [o,i] (getItem o i):=by
 cases sl<;>first | rfl | cases h
theorem I9 {value sl:Expr} (hs:iK sl=true) {o i:SV} {vo vi:Value} (ho:VR c.ν ρ₀ o vo) (hi:VR c.ν ρ₀ i vi) :
 aJ c ρ₀ (RM.look λσ=>nI σ.hp o i) (subscriptTail value sl vo vi) (VR c.ν):=by
 intro σ outs e ρ s x S Q E hQ
 have base:=Eu (c:=c) ho hi σ outs e ρ s x S Q E hQ
 have q:∃ r,nI σ.hp o i=some r:=by
  unfold RM.look at e
  dsimp only at e
  cases z:nI σ.hp o i with
  | none=>rw [z] at e; cases e
  | some r=>exact ⟨r,rfl⟩
 obtain ⟨r,q⟩:=q
 have hse:=nL hs vo vi
 clear e hQ
 rcases qc q with ⟨m,_,_,rfl,_⟩ | ⟨m,_,_,rfl,_,z,_⟩ | ⟨m,_,_,rfl,_,z,_⟩ | ⟨m,_,_,rfl,_,z,_⟩
 ·obtain ⟨t1,rfl⟩:=ho
  exact tail_any (typeIs_str s _ _) slot_str_getitem.lookup base hse
 ·obtain ⟨ad,hn,rfl⟩:=ho
  obtain ⟨vs,k,g2,_⟩:=S.list z (x _ _ hn)
  exact tail_any ⟨_,g2,rfl⟩ slot_list_getitem.lookup base hse
 ·obtain ⟨ad,hn,rfl⟩:=ho
  obtain ⟨vs,k,g2,_⟩:=S.tup z (x _ _ hn)
  exact tail_any ⟨_,g2,rfl⟩ slot_tuple_getitem.lookup base hse
 ·obtain ⟨ad,hn,rfl⟩:=ho
  obtain ⟨vs,k,g2,_⟩:=S.dict z (x _ _ hn)
  exact tail_any ⟨_,g2,rfl⟩ slot_dict_getitem.lookup base hse
def yJ (lo:Lo) (ce:CE):Option Expr→RM SV
 | none=>RM.ret .none
 | some e=>lo.E ce e
theorem uN (ok:bR D n lo) (co:c.Of D) (rm:Rm c n) (eo:aG c ρ₀ ce env) (e:Option Expr):aJ c ρ₀ (yJ lo ce e) (evalPart e env) (VR c.ν):=by
 cases e with
 | none=>exact aJ.known (v:=Value.none) (R:=VR c.ν) (λρ _=>(rfl:Value.none=Value.none)) λs Q E q=>aP q
 | some e=>exact ok.E c ρ₀ ce env e co rm eo
def cutAt (a:SV):Option (Option Nat):=Li a (some none) (qU a (λt=>By t (λi=>ob (natOf i) λn=>some (some n)) none) none)
theorem nM {ν:Nat→Int} {ρ:Nm} {a:SV} {v:Value} {r:Option Nat} (e:cutAt a=some r) (h:VR ν ρ a v):IsPart v (r.map Int.ofNat):=by
 revert e
 refine qV (p:=λq=>q=some r→IsPart v (r.map Int.ofNat)) (λea e=>?_) (dm (p:=λq=>q=some r→IsPart v (r.map Int.ofNat)) (λt ea=>fq (p:=λq=>q=some r→IsPart v (r.map Int.ofNat)) (λi et e=>aS e λm q e=>?_) λe=>nS e) λe=>nS e)
 ·subst ea
  rw [← aD e,show v=_ from h]; exact .none
 ·subst et ea
  obtain ⟨k,rfl⟩:=h
  rw [← aD e,(gJ q).1]
  exact .int _ _
noncomputable def upTo:Option Nat→Nat→Nat
 | some b,n=>min b n
 | none,n=>n
def slC (o:Option SO) (a b:Option Nat):Option SO:=Option.rec (motive:=λ_=>Option SO) none (λo=>SO.rec (motive:=λ_=>Option SO) (λ_ _=>none) (λ_=>none)
 (λxs=>cond (fC xs) (some (.list ((xs.drop (min (a.getD 0) xs.length)).take (upTo b xs.length - min (a.getD 0) xs.length)))) none)
 (λxs=>ob a λa=>Option.rec (motive:=λ_=>Option SO) (cond (Nat.ble 1 a&&Nat.ble a xs.length&&fC xs) (some (.tup (xs.drop a))) none) (λ_=>none) b) (λ_=>none) (some .ilist) (λ_=>none) o) o
def E7 (H:Hp) (o l u:SV):Option SO:=qC o (λn=>ob (cutAt l) λa=>ob (cutAt u) λb=>slC (H.get n) a b) none
inductive Y5 (o:Option SO) (a b:Option Nat) (so:SO):Prop
 | lst (xs:List SV) (g:o=some (.list xs)) (z:xs.length≤1000) (e:so=.list ((xs.drop (min (a.getD 0) xs.length)).take (upTo b xs.length - min (a.getD 0) xs.length))):Y5 o a b so
 | tup (xs:List SV) (k:Nat) (g:o=some (.tup xs)) (ea:a=some k) (eb:b=none) (z1:1≤k) (z2:k≤xs.length) (z:xs.length≤1000) (e:so=.tup (xs.drop k)):Y5 o a b so
 | ils (g:o=some .ilist) (e:so=.ilist):Y5 o a b so
theorem JA {o:Option SO} {a b:Option Nat} {so:SO} (e:slC o a b=some so):Y5 o a b so:=by
 cases o with
 | none=>exact nS e
 | some o =>
  cases o with
  | inst _ _ | dict _ | rng _ | cell _=>exact nS e
  | list xs=>exact aw e λz e=>.lst xs rfl (bK z) (aD e).symm
  | ilist=>exact .ils rfl (aD e).symm
  | tup xs =>
   refine aS e λk ea e=>?_
   cases b with
   | some _=>exact nS e
   | none=>exact aw e λz e=>dW z λz z3=>dW z λz1 z2=>.tup xs k rfl ea rfl (bK z1) (bK z2) (bK z3) (aD e).symm
section
variable {σ:SS} {ρ:Nm} {s:Shared} {value:Expr} {lower upper:Option Expr} {p:Pos} {ad sa:Addr} {so:SO} {m:Nat} {a b:Option Nat} {vl vu:Value} {Q E:Value→Shared→Prop}
noncomputable def Y6 (c:Cx) (σ:SS) (ρ:Nm) (s:Shared) (Q:Value→Shared→Prop) (so:SO):Prop:=∀ ρ' s' v,Ext ρ ρ'→c.SR ρ' { σ with hp:=σ.hp.put σ.nx so,nx:=σ.nx+1 } s'→VR c.ν ρ' (.ref σ.nx) v→aT s s'→Q v s'
theorem JB {xs:List SV} (S:c.SR ρ σ s) (hx:σ.nx<1024) (hn:ρ m=some ad) (hsl:s.heap.IsSliceOf sa vl vu .none) (p1:IsPart vl (a.map Int.ofNat)) (p2:IsPart vu (b.map Int.ofNat)) (g:σ.hp.get m=some (.list xs)) (hlen:xs.length≤1000)
 (hQ:Y6 c σ ρ s Q (.list ((xs.drop (min (a.getD 0) xs.length)).take (upTo b xs.length - min (a.getD 0) xs.length)))):wpAny c.M c.A (subscriptTail value (.Slice lower upper none p) (.ref ad) (.ref sa)) Q E s:=by
 obtain ⟨vs,m',h1,h2⟩:=S.list g hn
 rw [← h2.length] at hlen
 refine tail_any (ops:=[.ref sa,.ref ad]) ⟨_,h1,rfl⟩ slot_list_getitem.lookup ?_ rfl
 refine wpAny_getItem_list_slice (ao h1) hsl p1 p2 .none (by simp) ?_ (by rw [List.size_toArray,sizeLine_eq]; omega)
 rw [slicePick_plain]
 refine iJ (so:=SO.list _) (o:=bF _ 0) S hx rfl ⟨_,_,rfl,?_⟩ hQ
 have e1:(Option.map Int.ofNat a).elim 0 (clipAt vs.toArray.size)=min (a.getD 0) xs.length:=by
  cases a with
  | none=>exact (Nat.zero_min _).symm
  | some a=>show clipAt vs.toArray.size ((a:Nat):Int)=min a xs.length; rw [clipAt_nat,List.size_toArray,h2.length]
 have e2:(Option.map Int.ofNat b).elim vs.toArray.size (clipAt vs.toArray.size)=upTo b xs.length:=by
  cases b with
  | none=>exact h2.length
  | some b=>show clipAt vs.toArray.size ((b:Nat):Int)=min b xs.length; rw [clipAt_nat,List.size_toArray,h2.length]
 rw [e1,e2]
 simpa using (h2.drop (min (a.getD 0) xs.length)).take (upTo b xs.length - min (a.getD 0) xs.length)
theorem JC {xs:List SV} {a:Nat} (S:c.SR ρ σ s) (hx:σ.nx<1024) (hn:ρ m=some ad) (hsl:s.heap.IsSliceOf sa vl vu .none) (p1:IsPart vl ((some a).map Int.ofNat)) (p2:IsPart vu ((none:Option Nat).map Int.ofNat)) (g:σ.hp.get m=some (.tup xs)) (z1:1≤a) (z2:a≤xs.length) (z3:xs.length≤1000)
 (hQ:Y6 c σ ρ s Q (.tup (xs.drop a))):wpAny c.M c.A (subscriptTail value (.Slice lower upper none p) (.ref ad) (.ref sa)) Q E s:=by
 obtain ⟨vs,m',h1,h2⟩:=S.tup g hn
 rw [← h2.length] at z2 z3
 cases p1
 cases p2
 refine tail_any (ops:=[.ref sa,.ref ad]) ⟨_,h1,rfl⟩ slot_tuple_getitem.lookup ?_ rfl
 refine getItem_tuple_from (items:=vs.toArray) ⟨_,h1,rfl,m',rfl⟩ hsl z1 (by rw [List.size_toArray]; exact z2) ?_ (by rw [List.size_toArray,sizeLine_eq]; omega)
 refine iJ (so:=SO.tup _) (o:=ej _ 0) S hx rfl ⟨_,_,rfl,?_⟩ hQ
 simpa using h2.drop _
theorem JD (S:c.SR ρ σ s) (hx:σ.nx<1024) (hn:ρ m=some ad) (hsl:s.heap.IsSliceOf sa vl vu .none) (p1:IsPart vl (a.map Int.ofNat)) (p2:IsPart vu (b.map Int.ofNat)) (g:σ.hp.get m=some .ilist)
 (hQ:Y6 c σ ρ s Q .ilist):wpAny c.M c.A (subscriptTail value (.Slice lower upper none p) (.ref ad) (.ref sa)) Q E s:=by
 obtain ⟨ad',ob,k1,h1,h3,_⟩:=S.hp _ _ g
 obtain ⟨vs,m',rfl,hlen,hint⟩:=h3
 obtain rfl:=aD (hn.symm.trans k1)
 refine tail_any (ops:=[.ref sa,.ref ad]) ⟨_,h1,rfl⟩ slot_list_getitem.lookup ?_ rfl
 refine wpAny_getItem_list_slice (ao h1) hsl p1 p2 .none (by simp) ?_ (by rw [List.size_toArray,sizeLine_eq]; omega)
 rw [slicePick_plain]
 exact iJ (so:=SO.ilist) (o:=bF _ 0) S hx rfl ⟨_,0,rfl,Nat.le_trans ((List.take_sublist _ _).trans (List.drop_sublist _ _)).length_le hlen,λv hv=>hint v (List.mem_of_mem_drop (List.mem_of_mem_take hv))⟩ hQ
end
theorem CH {value:Expr} {lower upper:Option Expr} {p:Pos} {o l u:SV} {vo vl vu:Value} (ho:VR c.ν ρ₀ o vo) (hl:VR c.ν ρ₀ l vl) (hu:VR c.ν ρ₀ u vu) :
 a0 c ρ₀ (RM.made λσ=>E7 σ.hp o l u) (λQ E s=>wpAny c.M c.A (subscriptTail value (.Slice lower upper none p) vo (.ref s.heap.objs.size)) Q E { s with heap:=s.heap.push { cls:=.type "slice",data:=.fields #[vl,vu,.none] } }) (VR c.ν):=by
 intro σ outs e ρ s x S Q E hQ
 obtain ⟨so,q,hx,rfl⟩:=iI e
 have hQ:Y6 c σ ρ { s with heap:=s.heap.push { cls:=.type "slice",data:=.fields #[vl,vu,.none] } } Q so:=λρ' s' v x' S' r sm=>hQ _ _ ρ' s' v (.head _) x' S' r ((aT.mk s _ s.toks).trans sm)
 have S1:=S.grow (t:=s.toks) (h':=s.heap.push { cls:=.type "slice",data:=.fields #[vl,vu,.none] }) λb o e=>cK _ e
 have hsl:(s.heap.push { cls:=.type "slice",data:=.fields #[vl,vu,.none] }).IsSliceOf s.heap.objs.size vl vu .none:=Heap.IsSliceOf.new _ _ _ _
 revert q
 refine dG (p:=λq=>q=some so→wpAny c.M c.A (subscriptTail value (.Slice lower upper none p) vo (.ref s.heap.objs.size)) Q E { s with heap:=s.heap.push { cls:=.type "slice",data:=.fields #[vl,vu,.none] } }) (λm eo q=>aS q λa q1 q=>aS q λb q2 q=>?_) λq=>nS q
 subst eo
 obtain ⟨ad,hn,rfl⟩:=ho.mono x
 have p1:=nM q1 (hl.mono x)
 have p2:=nM q2 (hu.mono x)
 cases JA q with
 | lst xs g z e=>exact JB S1 hx hn hsl p1 p2 g z (e▸hQ)
 | tup xs k g ea eb z1 z2 z e=>exact JC S1 hx hn hsl (ea▸p1) (eb▸p2) g z1 z2 z (e▸hQ)
 | ils g e=>exact JD S1 hx hn hsl p1 p2 g (e▸hQ)
def Ls (lo:Lo) (ce:CE) (value sl:Expr):RM SV:=match sl with
 | .Slice l u none _=>RM.az (lo.E ce value) λo=>RM.az (yJ lo ce l) λa=>RM.az (yJ lo ce u) λb=>RM.made λσ=>E7 σ.hp o a b
 | sl=>cond (iK sl) (RM.az (lo.E ce value) λo=>RM.az (lo.E ce sl) λi=>RM.look λσ=>nI σ.hp o i) RM.bad
theorem E8 (ok:bR D n lo) (co:c.Of D) (rm:Rm c n) (eo:aG c ρ₀ ce env) {value sl:Expr} {p:Pos} (hs:iK sl=true) :
 aJ c ρ₀ (RM.az (lo.E ce value) λo=>RM.az (lo.E ce sl) λi=>RM.look λσ=>nI σ.hp o i) (eval (.Subscript value sl p) env) (VR c.ν) :=
 a0.snd (((ok.E c ρ₀ ce env value co rm eo).w).bind λρ₁ o vo x1 r1=>((ok.E c ρ₁ ce env sl co rm (eo.mono x1)).w).bind λρ₂ i vi x2 r2=>(I9 (value:=value) hs (r1.mono x2) r2).w) λQ E s h=>Subscript_ h
theorem CI (ok:bR D n lo) (co:c.Of D) (rm:Rm c n) (eo:aG c ρ₀ ce env) (value sl:Expr) {p:Pos}:aJ c ρ₀ (Ls lo ce value sl) (eval (.Subscript value sl p) env) (VR c.ν):=by
 cases sl<;>first | exact E8 ok co rm eo rfl | skip
 rename_i l u st p'
 cases st with
 | some _=>exact aJ.bad
 | none =>
  refine a0.snd (((ok.E c ρ₀ ce env value co rm eo).w).bind λρ₁ o vo x1 r1=>((uN ok co rm (eo.mono x1) l).w).bind λρ₂ a va x2 r2=>((uN ok co rm (eo.mono (x1.trans x2)) u).w).bind λρ₃ b vb x3 r3 =>
   CH (value:=value) (lower:=l) (upper:=u) (p:=p') ((r1.mono x2).mono x3) (r2.mono x3) r3) λQ E s h=>Subscript_ (bI h (λo s₁ h₁=>wpAny_Slice (bI h₁ (λa s₂ h₂=>bI h₂ (λb s₃ h₃=>aP h₃) λ_ _ x=>x) λ_ _ x=>x)) λ_ _ x=>x)
end
structure dn where
 attrs:List Nat
 init:Nat
def bM (x:Nat) (l:List Nat):Bool:=List.rec (motive:=λ_=>Bool) false (λy _ ih=>cond (Nat.beq y x) true ih) l
theorem fZ {x:Nat} {l:List Nat} (h:bM x l=true):x∈l:=by
 induction l with
 | nil=>exact nomatch h
 | cons y r ih =>
  replace h:cond (Nat.beq y x) true (bM x r)=true:=h
  cases q:Nat.beq y x with
  | true=>rw [ar q]; exact .head _
  | false=>rw [q] at h; exact .tail _ (ih h)
structure sS (K:Frag) (C:Addr) (d:dn):Prop where
 ga:findIn K (.ref C) "__getattribute__" = some (some (.builtin "object.__getattribute__"))
 gg:plainGet K C "__class__" = true
 hd:hasDictIn K C=true
 sa:findIn K (.ref C) "__setattr__" = some (some (.builtin "object.__setattr__"))
 po:plainOver K C=true
 mak:makesIn K C=true
 ini:findIn K (.ref C) "__init__" = some (some (.ref d.init))
 fn:typeIn K (.ref d.init)=some (.type "function")
 kc:findIn K (.ref C) "__class__" = some (some (.builtin "object.__class__"))
 mo:mroIn K C (.type "object")=some true
 kp:keepIn K (.ref C)=true
 at_:∀ x∈d.attrs,(∃ attr,findIn K (.ref C) (dec x)=some attr∧noGet K attr=true)∧takerIn K C (dec x)=some none
structure Y7 (K:Frag):Prop where
 ng:specialIn K (.builtin "object.__class__") "__get__" = some (some (.builtin "getset_descriptor.__get__"))
 ts:takesIn K (.builtin "object.__class__")=some true
def Lu (K:Frag) (C:Addr) (d:dn):Bool :=
 (findIn K (.ref C) "__getattribute__" == some (some (.builtin "object.__getattribute__")))&&plainGet K C "__class__" && hasDictIn K C&&(findIn K (.ref C) "__setattr__" == some (some (.builtin "object.__setattr__")))&&plainOver K C&&makesIn K C
  && (findIn K (.ref C) "__init__" == some (some (.ref d.init)))&&(typeIn K (.ref d.init) == some (.type "function"))&&(findIn K (.ref C) "__class__" == some (some (.builtin "object.__class__")))&&(mroIn K C (.type "object") == some true)&&keepIn K (.ref C)
  && d.attrs.all λx=>(match findIn K (.ref C) (dec x) with | some attr=>noGet K attr | none=>false)&&(takerIn K C (dec x) == some none)
theorem jJ {K:Frag} {C:Addr} {d:dn} (h:Lu K C d=true):sS K C d:=by
 unfold Lu at h
 simp only [Bool.and_eq_true,beq_iff_eq] at h
 obtain ⟨⟨⟨⟨⟨⟨⟨⟨⟨⟨⟨h1,h2⟩,h3⟩,h4⟩,h5⟩,h6⟩,h7⟩,h8⟩,h9⟩,h10⟩,h11⟩,h12⟩:=h
 refine ⟨h1,h2,h3,h4,h5,h6,h7,h8,h9,h10,h11,λx hx=>?_⟩
 have:=List.all_eq_true.mp h12 x hx
 rw [Bool.and_eq_true] at this
 refine ⟨?_,beq_iff_eq.mp this.2⟩
 cases q:findIn K (.ref C) (dec x) with
 | none=>rw [q] at this; cases this.1
 | some a=>rw [q] at this; exact ⟨a,rfl,this.1⟩
section
variable {P:Params} {ν:Nat→Int} {hG:Heap} {fz:Addr→Obj→Prop} {L:Addr} {ρ:Nm} {σ:SS} {s:Shared}
theorem dk.getL {es:List (Nat×SV)} {es':List DictEntry} (h:dk P ν ρ es es') (x:Nat):match lk es x with
 | some sv=>∃ v,PySem.W.getL (dec x) es'=some (some v)∧VR ν ρ sv v
 | none=>PySem.W.getL (dec x) es'=some none:=by
 have hf:=h.find x
 unfold PySem.W.getL
 rw [B0]
 cases q:lk es x with
 | none =>
  rw [q] at hf
  dsimp only at hf ⊢
  rw [hf]
  simp [h.noRef]
 | some sv =>
  rw [q] at hf
  obtain ⟨v,h1,h2⟩:=hf
  dsimp only
  cases z:List.find? (λe=>Value.isStrOf (dec x) e.key) es' with
  | none=>rw [z] at h1; cases h1
  | some e=>rw [z] at h1; exact ⟨v,by rw [← aD h1],h2⟩
theorem SR.inst (S:SR P ν hG fz L ρ σ s) {n C d:Nat} {a:Addr} (e:σ.hp.get n=some (.inst C d)) (ha:ρ n=some a):∃ b,ρ d=some b∧s.heap.get? a=some (instObj C b):=by
 obtain ⟨a',o,h1,h2,⟨b,h3,rfl⟩,_⟩:=S.hp n _ e
 rw [ha] at h1; cases h1
 exact ⟨b,h3,h2⟩
end
def Lv (a:SV):Bool:=SV.rec (motive:=λ_=>Bool) true (λ_=>true) (λ_=>true) (λ_=>true) (λ_=>true) (λ_=>true) (λ_=>true) (λ_=>false) true a
theorem E9 {ν:Nat→Int} {ρ:Nm} {a:SV} {v:Value} (e:Lv a=true) (h:VR ν ρ a v):handedIn v=true:=by
 cases a with
 | bi _=>exact nomatch e
 | none | bool _ | kref _ | ty _=>rw [show v=_ from h]; rfl
 | int _ | str _=>exact h.elim λk w=>by rw [w]; rfl
 | ref _=>exact h.elim λk w=>by rw [w.2]; rfl
 | anyN=>exact h.elim λi w=>w.elim λk w=>by rw [w.2]; rfl
def Qn (cls:List (Nat×dn)) (H:Hp) (n:Nat):Option (Nat×Nat×dn×List (Nat×SV)):=ob (gI (H.get n)) λp=>ob (lk cls p.1) λcd=>ob (gD (H.get p.2)) λes=>some (p.1,p.2,cd,es)
theorem FA {cls:List (Nat×dn)} {H:Hp} {n:Nat} {q:Nat×Nat×dn×List (Nat×SV)} {C:Prop} (e:Qn cls H n=some q) (k:H.get n=some (.inst q.1 q.2.1)→lk cls q.1=some q.2.2.1→H.get q.2.1=some (.dict q.2.2.2)→C):C :=
 aS e λp q1 e=>aS e λcd q2 e=>aS e λes q3 e=>k (aD e▸ZS q1) (aD e▸q2) (aD e▸sJ q3)
def attrS (cls:List (Nat×dn)) (H:Hp) (o:SV) (x:Nat):Option SV:=qC o (λn=>ob (Qn cls H n) λq=>cond (bM x q.2.2.1.attrs) (ob (lk q.2.2.2 x) λv=>cond (Lv v) (some v) none) none) none
def FC (cls:List (Nat×dn)) (o:SV) (x:Nat) (v:SV):RM Unit:=λσ=>qC o (λn=>ob (Qn cls σ.hp n) λq=>cond (bM x q.2.2.1.attrs&&Nat.ble q.2.2.2.length 900) (some [((),{ σ with hp:=σ.hp.put q.2.1 (.dict (Eg q.2.2.2 x v)) })]) none) none
noncomputable def cq (K:Frag) (cls:List (Nat×dn)):Prop:=∀ C d,lk cls C=some d→sS K C d
section
variable {c:Cx} {ρ₀:Nm} {env:Env} {K:Frag} {mg mb:Str→Option Value} {cls:List (Nat×dn)}
theorem FD {o:SV} {x:Nat} {vo:Value} {b:Bool} (G:Gd K mg mb c.hG) (hc:cq K cls) (ho:VR c.ν ρ₀ o vo):aJ c ρ₀ (RM.look λσ=>attrS cls σ.hp o x) (getAttr vo (dec x) b) (VR c.ν):=by
 refine aJ.look λσ r e ρ s y S Q E hQ=>?_
 replace ho:=ho.mono y
 revert e
 refine dG (p:=λq=>q=some r→wpAny c.M c.A (getAttr vo (dec x) b) Q E s) (λn eo e=>aS e λq e1 e=>FA e1 λq1 q2 q3=>aw e λq4 e=>aS e λv q5 e=>aw e λq6 e=>?_) λe=>nS e
 subst eo
 obtain ⟨a,hn,rfl⟩:=ho
 have ok:=hc _ _ q2
 obtain ⟨⟨attr,h1,h2⟩,_⟩:=ok.at_ x (fZ q4)
 obtain ⟨bd,h3,h4⟩:=S.inst q1 hn
 obtain ⟨es',k,h5,h6⟩:=S.dict q3 h3
 have h7:=h6.getL x
 rw [q5] at h7
 obtain ⟨u,h8,h9⟩:=h7
 have X:K.In s.heap:=λb o z=>S.br _ _ (G.X _ _ z)
 exact get_value (ox:=instObj q.1 bd) (od:=some (dictOf es' k)) X ⟨h4,rfl,rfl,h5⟩ ok.ga (findObj_own ok.hd h1 h2 (by rw [lookIn_dict]; exact h8)) (E9 q6 h9) (hQ _ u (S.toks _) (aD e▸h9) ⟨s.heap,_,rfl⟩)
theorem FE {o v:SV} {x:Nat} {vo vv:Value} (G:Gd K mg mb c.hG) (hc:cq K cls) (ho:VR c.ν ρ₀ o vo) (hv:VR c.ν ρ₀ v vv):aJ c ρ₀ (FC cls o x v) (setAttr vo (dec x) vv) (λ_ _ _=>True):=by
 refine aJ.one λσ outs e=>?_
 revert e
 refine dG (p:=λq=>q=some outs→_) (λn eo e=>aS e λq e1 e=>FA e1 λq1 q2 q3=>aw e λq4 e=>dW q4 λq4 q5=>⟨(),_,(aD e).symm,λρ s y S Q E hQ=>?_⟩) λe=>nS e
 subst eo
 replace ho:∃ a,ρ₀ n=some a∧vo=.ref a:=ho
 obtain ⟨a,hn,rfl⟩:=ho
 have ok:=hc _ _ q2
 have ht:=(ok.at_ x (fZ q4)).2
 obtain ⟨bd,h3,h4⟩:=S.inst q1 (y _ _ hn)
 obtain ⟨es',h5,h6⟩:=S.jH q3 h3
 have hl:es'.length≤900:=by rw [h6.length]; exact bK q5
 have X:K.In s.heap:=λb o z=>S.br _ _ (G.X _ _ z)
 obtain ⟨cdd,hcd,hdd⟩:=any_some ok.hd
 refine set_plain (ox:=instObj q.1 bd) (od:=some (dictOf es' es'.length)) X ⟨h4,rfl,rfl,h5⟩ ok.sa (osa_open (s:={ s with toks:=s.toks+1 }) (ox:=instObj q.1 bd) (od:=some (dictOf es' es'.length)) X ⟨h4,rfl,rfl,h5⟩ ok.po ht λb=>?_)
 have U:=λ(tk:Tok)=>Heap.get?_update_self (Obj.putName (dec x) (PyData.keyHash c.w.params (dec x)) (.str (dec x) tk) vv) h5 (by rw [putName_dict]; rfl)
 refine aF (aP (aF (aF (wpAny_loadPart h4 (aF ((looks_clsIn (M:=model c.prog c.w) X hcd) _ _ _ _ (λ_ _ e=>e) ?_))))))
 rw [hdd]
 refine aP (a:=some bd) (aF (aP (aF ?_)))
 unfold nsSet
 refine aF (aF (wpAny_askSetting (aP (aF (wpAny_mkText (aF (wpAny_loadPart h5 ?_)))))))
 dsimp only
 have nr:(!es'.toArray.any (·.key.isStr (dec x))&&es'.toArray.any (·.refKey))=false:=by
  rw [← Array.any_toList,← Array.any_toList,h6.noRef,Bool.and_false]
 rw [aRefKeyMayBeTheName_at,nr]
 refine wpAny_updatePart h5 ?_
 refine aF (wpAny_lookBehind (U _) (by rw [putName_dict]; exact pastItsLine_dict (by rw [List.size_toArray,sizeLine_eq]; have:=sM (x:=dec x) (h:=PyData.keyHash c.w.params (dec x)) (k:=.str (dec x) (s.toks+1)) (v:=vv) (es:=es'); omega)) ?_)
 refine aP ?_
 refine hQ ρ _ () (.refl _) (SR.change (t:=s.toks+2) S q3 h3 (U _) (by rw [putName_dict,← dH (h:=PyData.keyHash c.w.params (dec x)) (k:=.str (dec x) (s.toks+1)) (v:=vv)]; exact ⟨_,rfl,h6.putL (hv.mono y)⟩) (Heap.SameBut.update ..)) trivial (.mk _ _ _)
end
def tyR (cls:List (Nat×dn)) (H:Hp) (o:SO):Option (Sum Nat Nat):=SO.rec (motive:=λ_=>Option (Sum Nat Nat)) (λC d=>ob (lk cls C) λ_=>ob (gD (H.get d)) λ_=>some (.inr C)) (λ_=>some (.inl 4)) (λ_=>some (.inl 0)) (λ_=>some (.inl 5)) (λ_=>none) none (λ_=>none) o
def UA (cls:List (Nat×dn)) (H:Hp) (a:SV):Option (Sum Nat Nat):=SV.rec (motive:=λ_=>Option (Sum Nat Nat)) (some (.inl 7)) (λ_=>some (.inl 6)) (λ_=>some (.inl 3)) (λ_=>some (.inl 2)) (λn=>ob (H.get n) (tyR cls H)) (λ_=>none) (λ_=>none) (λ_=>none) none a
def yK (cls:List (Nat×dn)) (t:Sum Nat Nat) (c:SV):Option Bool:=Ts c (λC=>ob (lk cls C) λ_=>Sum.rec (motive:=λ_=>Option Bool) (λ_=>some false) (λD=>ob (lk cls D) λ_=>some (Nat.beq D C)) t)
 (Tt c (λn=>Sum.rec (motive:=λ_=>Option Bool) (λk=>cond (Nat.beq n 2) (some (Nat.beq k 2)) none) (λ_=>none) t) none)
def yL (cls:List (Nat×dn)) (t:Sum Nat Nat) (xs:List SV):Option Bool:=List.rec (motive:=λ_=>Option Bool) (some false) (λc _ ih=>ob (yK cls t c) λb=>Bool.rec (motive:=λ_=>Option Bool) ih (some true) b) xs
def UB (cls:List (Nat×dn)) (H:Hp) (a c:SV):Option Bool:=ob (UA cls H a) λt=>qC c (λn=>ob (gT (H.get n)) λxs=>yL cls t xs) (yK cls t c)
noncomputable def fb:List Nat:=[0,2,3,4,5,6,7]
structure uO (K:Frag) (cls:List (Nat×dn)):Prop where
 own:∀ C D d d',lk cls C=some d→lk cls D=some d'→kitOne K (.ref D) (.ref C)=some (Nat.beq D C)
 bt:∀ C d n,lk cls C=some d→n∈fb→kitOne K (.type (tyName n)) (.ref C)=some false
 st:∀ n,n∈fb→kitOne K (.type (tyName n)) (.type "str")=some (Nat.beq n 2)
def qf:Sum Nat Nat→Value
 | .inl n=>.type (tyName n)
 | .inr C=>.ref C
section
variable {c:Cx} {ρ₀:Nm} {env:Env} {K:Frag} {mg mb:Str→Option Value} {cls:List (Nat×dn)}
theorem qg {t:Sum Nat Nat} {cv:SV} {v:Value} {b:Bool} {ν:Nat→Int} {ρ:Nm} (I:uO K cls) (ht:∀ n,t=.inl n→n∈fb) (e:yK cls t cv=some b) (h:VR ν ρ cv v):kitOne K (qf t) v=some b:=by
 revert e
 refine Ad (p:=λq=>q=some b→kitOne K (qf t) v=some b) (λC ec e=>aS e λd q e=>?_) (Qd (p:=λq=>q=some b→kitOne K (qf t) v=some b) (λn ec e=>?_) λe=>nS e)
 ·subst ec
  rw [show v=_ from h]
  cases t with
  | inl n=>exact aD e▸I.bt C d n q (ht n rfl)
  | inr D=>exact aS e λd' q' e=>aD e▸I.own C D d d' q q'
 ·subst ec
  rw [show v=_ from h]
  cases t with
  | inr _=>exact nS e
  | inl k =>
   refine aw (o:=some (Nat.beq k 2)) e λq e=>?_
   rw [ar q,← aD e]
   exact I.st k (ht k rfl)
theorem CJ {t:Sum Nat Nat} {ν:Nat→Int} {ρ:Nm} (I:uO K cls) (ht:∀ n,t=.inl n→n∈fb) {xs:List SV} {vs:List Value} {b:Bool} (e:yL cls t xs=some b) (q:bX ν ρ xs vs):kitAny K (qf t) vs=some b:=by
 refine q.ind (motive:=λxs vs=>yL cls t xs=some b→kitAny K (qf t) vs=some b) (λe=>e) (λx xs v vs h1 _ ih e=>aS e λb' q e=>?_) e
 unfold kitAny
 rw [qg I ht q h1]
 cases b' with
 | true=>exact e
 | false=>exact ih e
structure Zb (K:Frag) (s:Shared) (v:Value) (t:Sum Nat Nat):Prop where
 n:∀ n,t=.inl n→n∈fb
 x:∃ H,KitX K v (qf t) H∧H s.heap
 ne:v≠.builtin "__main__.__loader__#opaque"
theorem nN {k:Nat} (h:k∈fb):∀ n,(Sum.inl k:Sum Nat Nat)=.inl n→n∈fb:=λn q=>Sum.inl.inj q▸h
theorem JE {σ:SS} {s:Shared} {ρ:Nm} {a:SV} {v:Value} {t:Sum Nat Nat} (k:Y7 K) (hc:cq K cls) (S:c.SR ρ σ s) (e:UA cls σ.hp a=some t) (h:VR c.ν ρ a v):Zb K s v t:=by
 cases a with
 | kref _ | ty _ | bi _ | anyN=>exact nS e
 | none=>rw [← aD e,show v=_ from h]; exact ⟨nN (by decide),⟨_,kitx_none,trivial⟩,λq=>nomatch q⟩
 | bool b=>rw [← aD e,show v=_ from h]; exact ⟨nN (by decide),⟨_,kitx_bool,trivial⟩,λq=>nomatch q⟩
 | int _=>obtain ⟨_,rfl⟩:=h; rw [← aD e]; exact ⟨nN (by decide),⟨_,kitx_int,trivial⟩,λq=>nomatch q⟩
 | str _=>obtain ⟨_,rfl⟩:=h; rw [← aD e]; exact ⟨nN (by decide),⟨_,kitx_str,trivial⟩,λq=>nomatch q⟩
 | ref m =>
  obtain ⟨ad,hn,rfl⟩:=h
  refine aS e λso q e=>?_
  cases so with
  | rng _ | ilist | cell _=>exact nS e
  | inst C d =>
   refine aS e λcd q1 e=>aS e λes q2 e=>?_
   rw [← aD e]
   have ok:=hc _ _ q1
   obtain ⟨b,hb,h1⟩:=S.inst q hn
   obtain ⟨es',h2,_⟩:=S.jH (sJ q2) hb
   have I:InstAt s.heap ad (instObj C b) C (some (dictOf es' es'.length)):=⟨h1,rfl,rfl,h2⟩
   exact ⟨λn q=>(nomatch q),⟨_,kitx_own ok.gg ok.hd ok.kc k.ng k.ts ok.mo,I⟩,λq=>nomatch q⟩
  | list xs =>
   obtain ⟨vs,k',h1,_⟩:=S.list q hn
   rw [← aD e]
   exact ⟨nN (by decide),⟨_,kitx_list,⟨_,h1,rfl⟩⟩,λq=>nomatch q⟩
  | dict es =>
   obtain ⟨vs,h1,_⟩:=S.jH q hn
   rw [← aD e]
   exact ⟨nN (by decide),⟨_,kitx_dict,⟨_,h1,rfl⟩⟩,λq=>nomatch q⟩
  | tup xs =>
   obtain ⟨vs,k',h1,_⟩:=S.tup q hn
   rw [← aD e]
   exact ⟨nN (by decide),⟨_,kitx_tuple,⟨_,h1,rfl⟩⟩,λq=>nomatch q⟩
theorem JH {a cv:SV} {va vc:Value} (G:Gd K mg mb c.hG) (k:Y7 K) (hc:cq K cls) (I:uO K cls) (ha:VR c.ν ρ₀ a va) (hcv:VR c.ν ρ₀ cv vc) :
 aJ c ρ₀ (RM.look λσ=>UB cls σ.hp a cv) (call (.builtin "isinstance") [va,vc]) (λ_ b v=>v=.bool b):=by
 refine aJ.look λσ r e ρ s x S Q E hQ=>?_
 replace ha:=ha.mono x
 replace hcv:=hcv.mono x
 have X:K.In s.heap:=λb o z=>S.br _ _ (G.X _ _ z)
 have fin:∀ tk,Q (.bool r) { s with toks:=tk }:=λtk=>hQ _ _ (S.toks tk) rfl ⟨s.heap,_,rfl⟩
 refine aS e λt q e=>?_
 obtain ⟨h1,⟨H,h2,h3⟩,h4⟩:=JE k hc S q ha
 revert e
 refine dG (p:=λq=>q=some r→wpAny c.M c.A (call (.builtin "isinstance") [va,vc]) Q E s) (λn en e0=>aS e0 λxs q2 e'=>?_) λe=>kia_one h2 X h3 (qg I h1 e hcv) h4 fin
 subst en
 obtain ⟨ad,hn,rfl⟩:=hcv
 obtain ⟨vs,m,g1,g2⟩:=S.tup (I0 q2) hn
 exact kia_tup h2 X h3 g1 (CJ I h1 e' g2) h4 fin
def UC (H:Hp) (a:SV):Option SV:=qC a (λn=>I1 (H.get n) λxs=>cond (fC xs) (some (.int (.c xs.length))) none) none
def UD (a b:SV):Option SV:=qU a (λt=>By t (λx=>qU b (λu=>By u (λy=>some (.int (.c (cond (decide (y > x)) y x)))) none) none) none) none
def Lw (H:Hp) (a:SV):Option SO:=qC a (λn=>I1 (H.get n) λxs=>cond (fC xs) (some (.list xs)) none) none
def UE (a:SV):Option SO:=qU a (λt=>By t (λi=>ob (natOf i) λn=>some (.rng n)) none) none
theorem JI {a:SV} {va:Value} (ha:VR c.ν ρ₀ a va):aJ c ρ₀ (RM.look λσ=>UC σ.hp a) (call (.builtin "len") [va]) (VR c.ν):=by
 refine aJ.look λσ r e ρ s x S Q E hQ=>?_
 replace ha:=ha.mono x
 revert e
 refine dG (p:=λq=>q=some r→wpAny c.M c.A (call (.builtin "len") [va]) Q E s) (λn ea e=>?_) λe=>nS e
 subst ea
 obtain ⟨ad,hn,rfl⟩:=ha
 have fin:∀ {xs vs},bX c.ν ρ xs vs→some (SV.int (.c xs.length))=some r→∀ t u,Q (.int vs.toArray.size u) { s with toks:=t }:=λh2 e t u=>hQ _ _ (S.toks _) (aD e▸⟨u,by rw [List.size_toArray,h2.length]; rfl⟩) ⟨s.heap,_,rfl⟩
 refine Eo e (λxs q e=>aw e λz e=>?_) λxs q e=>aw e λz e=>?_
 ·obtain ⟨vs,k,h1,h2⟩:=S.list q hn
  have hl:=bK z
  rw [← h2.length] at hl
  exact call_len_list (ao h1) (by rw [List.size_toArray]; omega) (fin h2 e _ _)
 ·obtain ⟨vs,k,h1,h2⟩:=S.tup q hn
  have hl:=bK z
  rw [← h2.length] at hl
  exact PyProof.Rows.len_tuple ⟨_,h1,rfl,k,rfl⟩ (by rw [List.size_toArray]; omega) (fin h2 e _ _)
theorem JK {a b:SV} {va vb:Value} (hh:c.A.handled=none) (ha:VR c.ν ρ₀ a va) (hb:VR c.ν ρ₀ b vb):aJ c ρ₀ (RM.opt (UD a b)) (call (.builtin "max") [va,vb]) (VR c.ν):=by
 refine aJ.opt λr=>?_
 refine dm (p:=λq=>q=some r→aJ c ρ₀ (RM.ret r) (call (.builtin "max") [va,vb]) (VR c.ν)) (λt ea=>fq (p:=λq=>q=some r→aJ c ρ₀ (RM.ret r) (call (.builtin "max") [va,vb]) (VR c.ν)) (λi et =>
  dm (p:=λq=>q=some r→aJ c ρ₀ (RM.ret r) (call (.builtin "max") [va,vb]) (VR c.ν)) (λu eb=>fq (p:=λq=>q=some r→aJ c ρ₀ (RM.ret r) (call (.builtin "max") [va,vb]) (VR c.ν)) (λj eu e=>?_) λe=>nS e) λe=>nS e) λe=>nS e) λe=>nS e
 subst et ea eu eb
 obtain ⟨k,rfl⟩:=ha
 obtain ⟨k',rfl⟩:=hb
 rw [← aD e]
 refine aJ.one λσ outs e=>⟨_,_,(aD e).symm,λρ s x S Q E hQ=>?_⟩
 refine max_two_ints hh λh' tk hk=>hQ ρ _ _ (.refl _) (S.grow hk) ?_ (.mk _ _ _)
 show ∃ k,_=Value.int (cond (decide (j > i)) j i) k
 by_cases q:j > i
 ·rw [decide_eq_true q]
  exact ⟨_,if_pos (show IT.ev c.ν (.c j) > IT.ev c.ν (.c i) from q)⟩
 ·rw [decide_eq_false q]
  exact ⟨_,if_neg (show ¬ IT.ev c.ν (.c j) > IT.ev c.ν (.c i) from q)⟩
theorem FF {a:SV} {va:Value} (ha:VR c.ν ρ₀ a va):aJ c ρ₀ (RM.made λσ=>Lw σ.hp a) (call (.type "list") [va]) (VR c.ν):=by
 intro σ outs e ρ s x S Q E hQ
 obtain ⟨so,q,hx,rfl⟩:=iI e
 replace ha:=ha.mono x
 revert q
 refine dG (p:=λq=>q=some so→wpAny c.M c.A (call (.type "list") [va]) Q E s) (λn ea q=>?_) λq=>nS q
 subst ea
 obtain ⟨ad,hn,rfl⟩:=ha
 have fin:∀ T,T = "list" ∨ T = "tuple" → ∀ xs vs k,fC xs=true→s.heap.get? ad=some { cls:=.type T,data:=.seq (vs:List Value).toArray k }→bX c.ν ρ xs vs→some (SO.list xs)=some so→wpAny c.M c.A (call (.type "list") [.ref ad]) Q E s:=by
  intro T hT xs vs k hl ho hv hso
  obtain rfl:=aD hso
  have hl:=bK hl
  refine call_list_seq ad hT ho rfl rfl (λh' c' hk hn'=>?_) (by rw [List.size_toArray,hv.length,sizeLine_eq]; omega)
  have X:=S.ext s.heap.objs.size
  refine hQ _ _ _ _ _ (.head _) X (SR.alloc (t:=s.toks) (a:=s.heap.objs.size) (o:=bF vs c') S hx ?_ hn' hk ⟨_,_,rfl,hv.mono X⟩) ⟨_,cp,rfl⟩ (.mk _ _ _)
  cases z:s.heap.get? s.heap.objs.size with
  | none=>rfl
  | some o'=>exact absurd (bE z) (Nat.lt_irrefl _)
 refine Eo q (λxs g q=>aw q λz q=>?_) λxs g q=>aw q λz q=>?_
 ·obtain ⟨vs,k,h1,h2⟩:=S.list g hn
  exact fin "list" (.inl rfl) xs vs k z h1 h2 q
 ·obtain ⟨vs,k,h1,h2⟩:=S.tup g hn
  exact fin "tuple" (.inr rfl) xs vs k z h1 h2 q
theorem JL {a:SV} {va:Value} (ha:VR c.ν ρ₀ a va):aJ c ρ₀ (RM.made λ_=>UE a) (call (.type "range") [va]) (VR c.ν):=by
 refine aJ.made λσ so e ρ s x S=>?_
 revert e
 refine dm (p:=λq=>q=some so→_) (λt ea=>fq (p:=λq=>q=some so→_) (λi et e=>aS e λn q e=>?_) λe=>nS e) λe=>nS e
 subst et ea
 rw [← aD e]
 obtain ⟨rfl,hn⟩:=gJ q
 obtain ⟨k,rfl⟩:=ha
 exact ⟨_,_,rfl,⟨s.toks,k,s.toks+1,rfl⟩,λQ E h=>call_range_1 h⟩
end
theorem Qo {α:Type} {x y:Nat} {v:α} {l:List (Nat×α)}:lk (Eg l x v) y=if x=y then some v else lk l y:=by
 induction l with
 | nil=>exact aQ (x,v) [] y
 | cons p r ih =>
  rw [uF]
  cases q:Nat.beq p.1 x with
  | true =>
   rw [cond_true,aQ,aQ,ar q]
   by_cases h:x=y
   ·rw [if_pos h,if_pos h]
   ·rw [if_neg h,if_neg h,if_neg h]
  | false =>
   rw [cond_false,aQ,aQ,ih]
   by_cases h:x=y
   ·rw [if_pos h,if_neg λw=>Nat.ne_of_beq_eq_false q (w.trans h.symm),if_pos h]
   ·rw [if_neg h,if_neg h]
theorem SR.locs {P:Params} {ν:Nat→Int} {hG:Heap} {fz:Addr→Obj→Prop} {L:Addr} {ρ:Nm} {σ:SS} {s:Shared} {l:List (Nat×SV)} (S:SR P ν hG fz L ρ σ s) (h:∀ y sv,lk l y=some sv→lk σ.loc y=some sv) :
 SR P ν hG fz L ρ { σ with loc:=l } s:=by
 obtain ⟨m,hm,hv⟩:=S.loc
 exact ⟨S.fzk,S.fc,S.gk,S.gd,⟨m,hm,λy sv e=>hv y sv (h y sv e)⟩,S.Lf,S.hp,S.inj,S.dom⟩
def d8 (ce:CE) (x:Nat) (v:SV):RM Unit:=λσ=>ob (lk ce.names x) λk=>NameKind.rec (motive:=λ_=>Option (List (Unit×SS))) (some [((),{ σ with loc:=Eg σ.loc x v })])
 (ob (lk ce.cells x) λk=>ob (gC (σ.hp.get k)) λ_=>some [((),{ σ with hp:=σ.hp.put k (.cell (some v)) })]) none none none k
section
variable {c:Cx} {ρ₀:Nm} {env:Env} {ce:CE} {K:Frag} {mg mb:Str→Option Value}
theorem FG (h:env.scope.kind=.function):(env.scope.kind == .class || (env.scope.kind == .module&&env.locals != env.globals))=false:=by rw [h]; rfl
theorem eI {x:Nat} {sv:SV} {v:Value} (eo:aG c ρ₀ ce env) (hv:VR c.ν ρ₀ sv v):aJ c ρ₀ (d8 ce x sv) (storeName env (dec x) v) (λ_ _ _=>True):=by
 refine aJ.one λσ outs e=>aS e λk q e=>?_
 have hk:=(eo.names x).trans q
 cases k with
 | «local» =>
  refine ⟨(),_,(aD e).symm,λρ s y S Q E hQ=>?_⟩
  obtain ⟨m,hm,hl⟩:=S.loc
  refine wpAny_storeName_local hk (eo.L▸hm) (λh' hn hs=>?_) (FG eo.kind)
  have S1:=SR.store (t:=s.toks+1) S (hv.mono y) ⟨m,hm,hl,rfl⟩ (eo.L▸hn) (eo.L▸hs)
  exact hQ ρ _ () (.refl _) (S1.locs λz sw e=>by rw [aQ]; rw [Qo] at e; exact e) trivial (.mk _ _ _)
 | cell =>
  refine aS e λk q2 e=>aS e λo q3 e=>⟨(),_,(aD e).symm,λρ s y S Q E hQ=>?_⟩
  replace q3:=To q3
  obtain ⟨a,h1,h2⟩:=eo.cells x k q2
  obtain ⟨b,ob,g1,g2,g3,_⟩:=S.hp k _ q3
  rw [y _ _ h2] at g1
  have hob:∃ v₀,ob.data=.cell v₀:=by
   cases o with
   | none=>exact ⟨none,g3⟩
   | some v=>exact g3.elim λu h=>⟨_,h.1⟩
  obtain ⟨v₀,hob⟩:=hob
  refine wpAny_storeName_cell eo.kind hk h1 (v₀:=v₀) ⟨ob,aD g1▸g2,hob⟩ λh' hc hs=>?_
  obtain ⟨o',ho',hd'⟩:=hc
  exact hQ ρ _ () (.refl _) (SR.change (t:=s.toks) S q3 (y _ _ h2) ho' ⟨v,hd',hv.mono y⟩ hs) trivial (.mk _ _ _)
 | _=>exact nS e
end
def UG (l:List SV):Nat→SV→List SV:=List.rec (motive:=λ_=>Nat→SV→List SV) (λ_ _=>[]) (λy r ih n v=>Nat.rec (motive:=λ_=>List SV) (v::r) (λn _=>y::ih n v) n) l
theorem JM (l:List SV):∀ (n:Nat) (v:SV),UG l n v=l.set n v:=by
 induction l with
 | nil=>exact λ_ _=>rfl
 | cons y r ih =>
  intro n v
  cases n with
  | zero=>rfl
  | succ n=>exact congrArg (y::·) (ih n v)
def Qp (d:Nat) (i:Int) (v:SV):RM Unit:=λσ=>ob (natOf i) λj=>ob (gL (σ.hp.get d)) λxs=>cond (Nat.blt j xs.length) (some [((),{ σ with hp:=σ.hp.put d (.list (UG xs j v)) })]) none
def qh (o i v:SV):RM Unit:=qC o (λd=>Ac i (λx=>kL d x v) (qU i (λt=>By t (λi=>Qp d i v) RM.bad) RM.bad)) RM.bad
section
variable {c:Cx} {ρ₀:Nm} {env:Env} {ce:CE} {K:Frag} {mg mb:Str→Option Value}
theorem uP {o i v:SV} {vo vi vv:Value} (ho:VR c.ν ρ₀ o vo) (hi:VR c.ν ρ₀ i vi) (hv:VR c.ν ρ₀ v vv):aJ c ρ₀ (qh o i v) (setItem vo vi vv) (λ_ _ _=>True):=by
 refine dG (p:=λm=>aJ c ρ₀ m (setItem vo vi vv) (λ_ _ _=>True)) (λd eo=>fp (p:=λm=>aJ c ρ₀ m (setItem vo vi vv) (λ_ _ _=>True)) (λx ei=>?_) (dm (p:=λm=>aJ c ρ₀ m (setItem vo vi vv) (λ_ _ _=>True)) (λt ei=>fq (p:=λm=>aJ c ρ₀ m (setItem vo vi vv) (λ_ _ _=>True)) (λz et=>?_) aJ.bad) aJ.bad)) aJ.bad
 ·subst eo ei
  obtain ⟨a,ha,rfl⟩:=ho
  obtain ⟨k,rfl⟩:=hi
  exact sN ha hv
 ·subst et ei eo
  obtain ⟨a,ha,rfl⟩:=ho
  obtain ⟨k,rfl⟩:=hi
  refine aJ.one λσ outs e=>aS e λj q1 e=>aS e λxs q2 e=>aw e λq3 e=>⟨(),_,(aD e).symm,λρ s y S Q E hQ=>?_⟩
  replace q2:=jG q2
  obtain ⟨rfl,hj⟩:=gJ q1
  obtain ⟨vs,m,h1,h2⟩:=S.list q2 (y _ _ ha)
  have hlt:=aC.mp q3
  rw [← h2.length] at hlt
  have hlt':(j:Int)<(vs.toArray.size:Int):=Int.ofNat_lt.mpr hlt
  refine ki_setAt (items:=vs.toArray) h1 (Int.natCast_nonneg j) (by show (j:Int)<_; omega) hlt' ?_
  have U:=Heap.get?_update_self (Obj.mapSeq (·.setIfInBounds (IT.ev c.ν (.c (j:Int))).toNat vv)) h1 rfl
  refine hQ ρ _ () (.refl _) (SR.change (t:=s.toks) S q2 (y _ _ ha) U ?_ (Heap.SameBut.update ..)) trivial (.mk _ _ _)
  refine ⟨vs.set j vv,if (vs.toArray.setIfInBounds j vv).size == vs.toArray.size then m else m+1,?_,by rw [JM]; exact h2.set j (hv.mono y)⟩
  simp [Obj.mapSeq,bF,IT.ev]
end
def iL (cls:List (Nat×dn)) (lo:Lo) (ce:CE) (v:SV) (e:Expr):RM Unit:=match e with
 | .Name x _=>cond (fo x) (d8 ce (enc x) v) RM.bad
 | .Attribute o a _=>cond (fo a) (RM.az (lo.E ce o) λov=>FC cls ov (enc a) v) RM.bad
 | .Subscript o i _=>cond (iK i) (RM.az (lo.E ce o) λov=>RM.az (lo.E ce i) λiv=>qh ov iv v) RM.bad
 | _=>RM.bad
def iM (cls:List (Nat×dn)) (lo:Lo) (ce:CE) (es:List Expr):List SV→RM Unit:=List.rec (motive:=λ_=>List SV→RM Unit) (λvs=>List.rec (motive:=λ_=>RM Unit) (RM.ret ()) (λ_ _ _=>RM.bad) vs)
 (λe _ ih vs=>List.rec (motive:=λ_=>RM Unit) RM.bad (λv vs _=>RM.az (iL cls lo ce v e) λ_=>ih vs) vs) es
def bO (es:List Expr):Bool:=List.rec (motive:=λ_=>Bool) true (λe _ ih=>cond (cH e) false ih) es
theorem fE {e:Expr} {r:List Expr} {C:Prop} (h:bO (e::r)=true) (k:cH e=false→bO r=true→C):C:=by
 replace h:cond (cH e) false (bO r)=true:=h
 cases q:cH e with
 | true=>rw [q] at h; exact nomatch h
 | false=>rw [q] at h; exact k q h
def tupS (σ:SS) (v:SV):Option (List SV):=qC v (λn=>gT (σ.hp.get n)) none
theorem FH {σ:SS} {v:SV} {xs:List SV} {C:Prop} (k:∀ n,v=.ref n→σ.hp.get n=some (.tup xs)→C):tupS σ v=some xs→C :=
 dG (p:=λq=>q=some xs→C) (λn ev e=>k n ev (I0 e)) λe=>nS e
def dR (cls:List (Nat×dn)) (lo:Lo) (ce:CE) (v:SV) (e:Expr):RM Unit:=match e with
 | .Tuple es _ _=>RM.az (RM.look λσ=>tupS σ v) λxs=>cond (bO es&&Nat.beq es.length xs.length) (iM cls lo ce es xs) RM.bad
 | e=>iL cls lo ce v e
section
variable {D:Ds} {n:Nat} {lo:Lo} {c:Cx} {ρ₀:Nm} {env:Env} {ce:CE} {K:Frag} {mg mb:Str→Option Value} {cls:List (Nat×dn)}
theorem k9 (ok:bR D n lo) (co:c.Of D) (rm:Rm c n) (G:Gd K mg mb c.hG) (hc:cq K cls) (eo:aG c ρ₀ ce env) {v:SV} {vv:Value} (hv:VR c.ν ρ₀ v vv) (e:Expr) :
 aJ c ρ₀ (iL cls lo ce v e) (assign e env vv) (λ_ _ _=>True):=by
 cases e<;>first | exact aJ.bad | skip
 ·rename_i o a p
  show aJ c ρ₀ (cond (fo a) _ _) (holding [vv] (eval o env) >>= λov=>standAt p.atName >>= λ_=>holding [vv,ov] (setAttr ov a vv) >>= λ_=>release [vv,ov] []) _
  refine aJ.guard λhs=>?_
  refine (aJ.holding (ok.E c ρ₀ ce env o co rm eo)).bind λρ₁ ov vo x1 r1=>aJ.standAt ?_
  have:=FE (x:=enc a) G hc r1 (hv.mono x1)
  rw [dec_enc hs] at this
  intro σ outs e ρ s x S Q E hQ
  exact aF (cL (this σ outs e ρ s x S _ E λy σ' ρ' s' u hm x' S' r sm=>wpAny_release (hQ y σ' ρ' s' () hm x' S' trivial sm)))
 ·rename_i o i p
  show aJ c ρ₀ (cond (iK i) _ _) (holding [vv] (eval o env) >>= λov=>holding [vv,ov] (eval i env) >>= λiv=>standAt p >>= λ_=>holding [vv,ov,iv] (setItem ov iv vv) >>= λ_=>release _ []) _
  refine aJ.guard λhs=>?_
  refine (aJ.holding (ok.E c ρ₀ ce env o co rm eo)).bind λρ₁ ov vo x1 r1=>(aJ.holding (ok.E c ρ₁ ce env i co rm (eo.mono x1))).bind λρ₂ iv vi x2 r2=>aJ.standAt ?_
  have:=uP (c:=c) (r1.mono x2) r2 (hv.mono (x1.trans x2))
  intro σ outs e ρ s x S Q E hQ
  exact aF (cL (this σ outs e ρ s x S _ E λy σ' ρ' s' u hm x' S' r sm=>wpAny_release (hQ y σ' ρ' s' () hm x' S' trivial sm)))
 ·rename_i x p
  show aJ c ρ₀ (cond (fo x) _ _) (standAt p >>= λ_=>bindName env x vv) _
  refine aJ.guard λhs=>aJ.standAt ?_
  have:=eI (x:=enc x) eo hv
  rw [dec_enc hs] at this
  exact this.to λQ E s h=>wpAny_bindName h
theorem dx {e:Expr} {r:List Expr} (h:cH e=false):assignEach (e::r) env=(false,assign e env)::assignEach r env:=by
 cases e<;>first | rfl | cases h
theorem uQ (ok:bR D n lo) (co:c.Of D) (rm:Rm c n) (G:Gd K mg mb c.hG) (hc:cq K cls) (es:List Expr):∀ (xs:List SV) {ρ₀:Nm} {env:Env} {vs:List Value},aG c ρ₀ ce env→bX c.ν ρ₀ xs vs→bO es=true →
 aJ c ρ₀ (iM cls lo ce es xs) (assignInOrder ((assignEach es env).map (·.2)) vs) (λ_ _ _=>True):=by
 induction es with
 | nil =>
  intro xs ρ₀ env vs eo hv hs
  cases xs with
  | cons _ _=>exact aJ.bad
  | nil=>exact hv.nl (aJ.known (R:=λ_ _ _=>True) (λ_ _=>trivial) λs Q E q=>aP q)
 | cons e es ih =>
  intro xs ρ₀ env vs eo hv hs
  cases xs with
  | nil=>exact aJ.bad
  | cons x xs =>
   refine hv.un λv vs v1 v2=>fE hs λq hs=>?_
   rw [dx q]
   show aJ c ρ₀ (RM.az (iL cls lo ce x e) λ_=>iM cls lo ce es xs) (holding vs (assign e env v) >>= λ_=>assignInOrder ((assignEach es env).map (·.2)) vs) _
   exact (aJ.holding (k9 ok co rm G hc eo v1 e)).bind λρ₁ _ _ x1 _=>ih xs (eo.mono x1) (v2.mono x1) hs
theorem sT {es:List Expr} (h:bO es=true):(assignEach es env).length=es.length∧(assignEach es env).findIdx? (·.1)=none:=by
 induction es with
 | nil=>exact ⟨rfl,rfl⟩
 | cons e r ih =>
  refine fE h λq h=>?_
  rw [dx q,List.length_cons,List.length_cons,(ih h).1,List.findIdx?_cons,(ih h).2]
  exact ⟨rfl,rfl⟩
theorem dc (ok:bR D n lo) (co:c.Of D) (rm:Rm c n) (G:Gd K mg mb c.hG) (hc:cq K cls) (eo:aG c ρ₀ ce env) {v:SV} {vv:Value} (hv:VR c.ν ρ₀ v vv) (e:Expr) :
 aJ c ρ₀ (dR cls lo ce v e) (assign e env vv) (λ_ _ _=>True):=by
 cases e<;>first | (unfold dR; exact k9 ok co rm G hc eo hv _) | skip
 rename_i es k p
 unfold dR
 show aJ c ρ₀ _ (standAt p >>= λ_=>unpack vv (assignEach es env)) _
 refine aJ.standAt ?_
 intro σ outs e ρ s x S Q E hQ
 obtain ⟨l,hl,hg⟩:=RM.aO e
 refine RM.i2 hl λxs z el=>FH (λm em g=>?_) z
 subst el em
 obtain ⟨o,ho,hs⟩:=hg _ (.head _)
 replace ho:cond (bO es&&Nat.beq es.length xs.length) (iM cls lo ce es xs) RM.bad σ=some o:=ho
 cases z2:(bO es&&Nat.beq es.length xs.length) with
 | false=>rw [z2] at ho; exact nS ho
 | true =>
  rw [z2] at ho
  refine dW z2 λz3 z4=>?_
  obtain ⟨ad,hn,rfl⟩:=hv
  obtain ⟨vs,kk,h1,h2⟩:=S.tup g (x _ _ hn)
  obtain ⟨f1,f2⟩:=sT (env:=env) z3
  have hlen:(assignEach es env).length=vs.toArray.size:=by rw [f1,List.size_toArray,h2.length]; exact ar z4
  unfold unpack
  rw [f2,hlen]
  refine aF (cL (unpackItems_tuple rm.hh ⟨_,h1,rfl,kk,rfl⟩ λh' he=>?_))
  exact uQ ok co rm G hc es _ (eo.mono x) h2 z3 σ o ho ρ _ (.refl _) (S.grow (t:=s.toks) (h':=h') λb o eb=>he b o (Nat.ne_of_lt (bE eb)) eb) Q E λy σ' ρ' s' u hm x' S' r sm=>hQ y σ' ρ' s' u (hs _ hm) x' S' r ((aT.mk s h' s.toks).trans sm)
end
noncomputable def Qq (k:NameKind):Bool:=match k with
 | .local=>true
 | _=>false
def lA (ce:CE) (x:Str):Bool:=iX (lk ce.names (enc x)) (λk=>cond (Qq k) (fo x) false) false
noncomputable def TZ (e:Expr):Option (Str×Pos):=match e with
 | .Name a p=>some (a,p)
 | _=>none
noncomputable def Y8 (e:Expr):Option (Expr×List Comprehension×Scope×Pos):=match e with
 | .ListComp a b c p=>some (a,b,c,p)
 | _=>none
noncomputable def Lx (e:Expr):Bool:=match e with
 | .SetComp _ _ _ _=>true
 | .DictComp _ _ _ _ _=>true
 | _=>false
def yM (ce:CE) (value:Expr) (target:Expr):Option Bool:=iX (Y8 value) (λq=>iX (TZ target) (λx=>cond (fo x.1) (some (lA ce x.1&&x.2.line == q.2.2.2.line&&!(q.2.2.1.names.any λ(n,k)=>n == x.1&&(k == .local || k == .cell)))) none) (some false))
 (cond (Lx value) none (some false))
noncomputable def FI (e:Expr):Option (List Expr):=match e with
 | .Tuple l _ _=>some l
 | _=>none
noncomputable def UH (e:Expr):Bool:=match e with
 | .List _ _=>true
 | _=>false
def two (l:List Expr):Option (Expr×Expr):=List.rec (motive:=λ_=>Option (Expr×Expr)) none (λx r _=>List.rec (motive:=λ_=>Option (Expr×Expr)) none (λy q _=>List.rec (motive:=λ_=>Option (Expr×Expr)) (some (x,y)) (λ_ _ _=>none) q) r) l
def Y9 (ce:CE) (ts vs:List Expr):Option (Option (Str×Str×Expr×Expr)):=ob (two ts) λx=>ob (two vs) λv=>ob (TZ x.1) λa=>ob (TZ x.2) λb =>
 cond (cH v.1 || cH v.2) none (cond (foldedForSure 8 v.1&&foldedForSure 8 v.2) (some none) (cond (constantsAlone 8 v.1&&constantsAlone 8 v.2) none
  (cond (lA ce a.1&&lA ce b.1&&Nat.beq a.2.line b.2.line&&!(Nat.beq (enc a.1) (enc b.1))) (some (some (a.1,b.1,v.1,v.2))) none)))
def uR (ce:CE) (target value:Expr):Option (Option (Str×Str×Expr×Expr)):=iX (FI value) (λvs=>iX (FI target) (λts=>Y9 ce ts vs) (cond (UH target) none (some none))) (some none)
theorem mi {e:Expr} {l:List Expr} (h:FI e=some l):∃ k p,e=.Tuple l k p:=by
 cases e with
 | Tuple l' k p=>exact ⟨k,p,congrArg (λl=>Expr.Tuple l k p) (aD h)⟩
 | _=>exact nS h
theorem sU {e:Expr} {a:Str×Pos} (h:TZ e=some a):e=.Name a.1 a.2:=by
 cases e with
 | Name a p=>exact congrArg (λa:Str×Pos=>Expr.Name a.1 a.2) (aD h)
 | _=>exact nS h
theorem FJ {e:Expr} {a:Expr×List Comprehension×Scope×Pos} (h:Y8 e=some a):e=.ListComp a.1 a.2.1 a.2.2.1 a.2.2.2:=by
 cases e with
 | ListComp a b c p=>exact congrArg (λa:Expr×List Comprehension×Scope×Pos=>Expr.ListComp a.1 a.2.1 a.2.2.1 a.2.2.2) (aD h)
 | _=>exact nS h
theorem sV {l:List Expr} {x:Expr×Expr} (h:two l=some x):l=[x.1,x.2]:=by
 cases l with
 | nil=>exact nS h
 | cons a r=>cases r with
  | nil=>exact nS h
  | cons b q=>cases q with
   | nil=>rw [← aD h]
   | cons _ _=>exact nS h
theorem iN {α:Type} {b:Bool} {o:Option α} {y:α} {C:Prop} (e:cond b none o=some y) (k:b=false→o=some y→C):C:=by
 cases b with
 | true=>exact nS e
 | false=>exact k rfl e
inductive SwB (ce:CE) (ts vs:List Expr) (q:Str×Str×Expr×Expr):Prop
 | mk (pa pb:Pos) (et:ts=[.Name q.1 pa,.Name q.2.1 pb]) (ev:vs=[q.2.2.1,q.2.2.2]) (q1:(cH q.2.2.1 || cH q.2.2.2)=false) (q2:(foldedForSure 8 q.2.2.1&&foldedForSure 8 q.2.2.2)=false) (q3:(constantsAlone 8 q.2.2.1&&constantsAlone 8 q.2.2.2)=false)
  (q4:(lA ce q.1&&lA ce q.2.1&&Nat.beq pa.line pb.line&&!(Nat.beq (enc q.1) (enc q.2.1)))=true):SwB ce ts vs q
theorem JN {ce:CE} {ts vs:List Expr} {q:Str×Str×Expr×Expr} (e:Y9 ce ts vs=some (some q)):SwB ce ts vs q:=by
 refine aS e λx e1 e=>aS e λw e2 e=>aS e λa e3 e=>aS e λb e4 e=>iN e λq1 e=>?_
 cases q2:(foldedForSure 8 w.1&&foldedForSure 8 w.2) with
 | true=>rw [q2] at e; exact nomatch (aD e)
 | false =>
  rw [q2] at e
  refine iN e λq3 e=>aw e λq4 e=>?_
  rw [← aD (aD e)]
  exact ⟨a.2,b.2,by rw [sV e1,sU e3,sU e4],sV e2,q1,q2,q3,q4⟩
theorem Qr {ce:CE} {ts vs:List Expr} {C:Prop} (e:Y9 ce ts vs=some none) (k:∀ w1 w2,vs=[w1,w2]→(foldedForSure 8 w1&&foldedForSure 8 w2)=true→C):C:=by
 refine aS e λx e1 e=>aS e λw e2 e=>aS e λa e3 e=>aS e λb e4 e=>iN e λq1 e=>?_
 cases q2:(foldedForSure 8 w.1&&foldedForSure 8 w.2) with
 | true=>exact k w.1 w.2 (sV e2) q2
 | false =>
  rw [q2] at e
  exact iN e λq3 e=>aw e λq4 e=>nomatch (aD e)
theorem FK {t v:Expr} {env:Env} (h:∀ ts k p vs k' p',t=.Tuple ts k p→v≠.Tuple vs k' p') (h':∀ ts p vs k' p',t=.List ts p→v≠.Tuple vs k' p'):swappedStores [t] v env=pure none:=by
 cases t with
 | Tuple ts k p=>cases v with
  | Tuple vs k' p'=>exact absurd rfl (h _ _ _ _ _ _ rfl)
  | _=>rfl
 | List ts p=>cases v with
  | Tuple vs k' p'=>exact absurd rfl (h' _ _ _ _ _ rfl)
  | _=>rfl
 | _=>rfl
theorem Zc {α:Sort _} {a b c d e:Prop} [Decidable a] [Decidable b] [Decidable c] [Decidable d] [Decidable e] {x1 x2 x3 x4 x5 z:α} (ha:¬a) (hb:¬b) (hc:¬c) (hd:¬d) (he:¬e):(if a then x1 else if b then x2 else if c then x3 else if d then x4 else if e then x5 else z)=z:=by
 rw [if_neg ha,if_neg hb,if_neg hc,if_neg hd,if_neg he]
theorem Zd {α:Sort _} {a b c d:Prop} [Decidable a] [Decidable b] [Decidable c] [Decidable d] {x z:α} (hd:d):(if a then x else if b then x else if c then x else if d then x else z)=x:=by
 rw [if_pos hd]
 by_cases a
 ·rw [if_pos ‹a›]
 ·rw [if_neg ‹¬a›]
  by_cases b
  ·rw [if_pos ‹b›]
  ·rw [if_neg ‹¬b›]
   by_cases c
   ·rw [if_pos ‹c›]
   ·rw [if_neg ‹¬c›]
section
variable {D:Ds} {n:Nat} {lo:Lo} {c:Cx} {ρ₀:Nm} {env:Env} {ce:CE} {K:Frag} {mg mb:Str→Option Value} {cls:List (Nat×dn)}
theorem uS {x:Str} (eo:aG c ρ₀ ce env) (h:lA ce x=true):fo x=true∧env.kindOf x=some .local:=by
 revert h
 refine eM (p:=λq=>q=true→fo x=true∧env.kindOf x=some .local) (λk q h=>?_) λh=>nomatch h
 cases k with
 | «local»=>exact ⟨h,by rw [← dec_enc h,eo.names,q]⟩
 | _=>exact absurd h Bool.false_ne_true
theorem jK (h:env.scope.kind=.function):env.blockKind=.function:=by unfold Env.blockKind; rw [h]; rfl
theorem yN {t v:Expr} (h:uR ce t v=some none):swappedStores [t] v env=pure none:=by
 unfold uR at h
 cases hv:FI v with
 | none=>exact FK (λts k p vs k' p' _ e=>by rw [e] at hv; exact nS hv.symm) λts p vs k' p' _ e=>by rw [e] at hv; exact nS hv.symm
 | some vs =>
  rw [hv] at h
  cases ht:FI t with
  | none =>
   rw [ht] at h
   exact FK (λts k p vs k' p' e=>by rw [e] at ht; exact nS ht.symm) λts p vs k' p' e=>by rw [e] at h; exact nS h
  | some ts =>
   rw [ht] at h
   refine Qr (h:Y9 ce ts vs=some none) λw1 w2 e2 q2=>?_
   obtain ⟨k,p,et⟩:=mi ht
   obtain ⟨k',p',ev⟩:=mi hv
   rw [et,ev,e2]
   exact Zd (show (foldedForSure 8 w1&&(foldedForSure 8 w2&&true))=true by rw [Bool.and_true]; exact q2)
end
section
variable {P:Params} {ν:Nat→Int} {hG:Heap} {fz:Addr→Obj→Prop} {L:Addr} {ρ:Nm} {σ:SS} {s:Shared}
theorem SR.other (S:SR P ν hG fz L ρ σ s) {h':Heap} {t:Nat} {I:Addr} (hL:I≠L) (hu:∀ n so,σ.hp.get n=some so→ρ n≠some I) (hf:∀ o,¬ fz I o) (hs:Heap.ExtBut I s.heap h'):SR P ν hG fz L ρ σ { s with heap:=h',toks:=t }:=by
 refine ⟨λb o e=>(S.fzk b o e).mono λo' z=>hs b o' (λq=>by subst q; exact hf _ e) z,S.fc,λb o e=>hs b o (λq=>by subst q; exact hf _ (S.gd _ _ e)) (S.gk b o e),S.gd,?_,S.Lf,λn so e=>?_,S.inj,S.dom⟩
 ·obtain ⟨m,hm,hv⟩:=S.loc
  exact ⟨m,hm.extBut hs (Ne.symm hL),hv⟩
 ·obtain ⟨a,o,h1,h2,h3,h4,h5⟩:=S.hp n so e
  exact ⟨a,o,h1,hs a o (λq=>hu n so e (q▸h1)) h2,h3,h4,h5⟩
noncomputable def dX (fz:Addr→Obj→Prop) (I:Addr) (o:Obj):Addr→Obj→Prop:=λa o'=>fz a o'∨(a=I∧o'=o)
theorem yO {fz:Addr→Obj→Prop} {I:Addr} {o:Obj} (fc:∀ b o o',fz b o→fz b o'→d7 o→d7 o') (h:∀ o',fz I o'→(d7 o'→d7 o)∧(d7 o→d7 o')):∀ b o1 o2,dX fz I o b o1→dX fz I o b o2→d7 o1→d7 o2:=by
 intro b o1 o2 e1 e2 m
 rcases e1 with e1 | ⟨rfl,rfl⟩<;>rcases e2 with e2 | ⟨h2,h3⟩
 ·exact fc _ _ _ e1 e2 m
 ·subst h2; subst h3; exact (h _ e1).1 m
 ·exact (h _ e2).2 m
 ·subst h3; exact m
theorem SR.freeze (S:SR P ν hG fz L ρ σ s) {I:Addr} {o:Obj} (ho:s.heap.get? I=some o) (hL:I≠L) (hu:∀ n so,σ.hp.get n=some so→ρ n≠some I) (hf:∀ o,¬ fz I o):SR P ν hG (dX fz I o) L ρ σ s:=by
 refine ⟨λb ob e=>?_,yO S.fc λo' e=>absurd e (hf o'),S.gk,λb ob e=>.inl (S.gd b ob e),S.loc,λob e=>?_,λn so e=>?_,S.inj,S.dom⟩
 ·rcases e with e | ⟨rfl,rfl⟩
  ·exact S.fzk b ob e
  ·exact .of ho
 ·rcases e with e | ⟨e,_⟩
  ·exact S.Lf _ e
  ·exact hL e.symm
 ·obtain ⟨a,ob,h1,h2,h3,h4,h5⟩:=S.hp n so e
  refine ⟨a,ob,h1,h2,h3,h4,λhs o' q=>?_⟩
  rcases q with q | ⟨rfl,_⟩
  ·exact h5 hs _ q
  ·exact hu n so e h1
theorem SR.FN {I:Addr} {o:Obj} (S:SR P ν hG (dX fz I o) L ρ σ s) (hg:∀ b o,hG.get? b=some o→fz b o) (hnt:∀ vs n,o≠ej vs n) (hm:o.cls≠.none):SR P ν hG fz L ρ σ s∧s.heap.get? I=some o∧I≠L∧∀ n so,σ.hp.get n=some so→ρ n≠some I:=by
 have hI:=(S.fzk I o (.inr ⟨rfl,rfl⟩)).to (kK hm)
 refine ⟨⟨λb ob e=>S.fzk b ob (.inl e),λb o1 o2 e1 e2=>S.fc b o1 o2 (.inl e1) (.inl e2),S.gk,hg,S.loc,λob e=>S.Lf ob (.inl e),λn so e=>?_,S.inj,S.dom⟩,hI,λe=>?_,λn so e q=>?_⟩
 ·obtain ⟨a,ob,h1,h2,h3,h4,h5⟩:=S.hp n so e
  exact ⟨a,ob,h1,h2,h3,h4,λhs o' q=>h5 hs o' (.inl q)⟩
 ·exact S.Lf o (.inr ⟨e.symm,rfl⟩)
 ·obtain ⟨a,ob,h1,h2,h3,h4,h5⟩:=S.hp n so e
  rw [h1] at q
  cases q
  cases hs:ag so with
  | false=>exact h5 hs o (.inr ⟨rfl,rfl⟩)
  | true =>
   rw [hI] at h2
   cases h2
   cases so with
   | tup xs=>obtain ⟨vs,n,e,_⟩:=h3; exact hnt vs n e
   | _=>cases hs
theorem Ns.i3 {h h':Heap} {a:Addr} {m:Str→Option Value} {o o':Obj} (hn:h.Ns a m) (ho:h.get? a=some o) (ho':h'.get? a=some o') (e:o'.data=o.data):h'.Ns a m:=by
 obtain ⟨o2,es,ep,k1,k2,k3⟩:=hn
 rw [ho] at k1; cases k1
 exact ⟨o',es,ep,ho',e.trans k2,k3⟩
theorem Ns.dict {h:Heap} {a:Addr} {m:Str→Option Value} {o:Obj} (hn:h.Ns a m) (ho:h.get? a=some o):∃ es ep,o.data=.dict es ep:=by
 obtain ⟨o2,es,ep,k1,k2,k3⟩:=hn
 rw [ho] at k1; cases k1
 exact ⟨es,ep,k2⟩
theorem SR.FO (S:SR P ν hG fz L ρ σ s) {I:Addr} {o:Obj} (ho:s.heap.get? I=some o) (hd:∃ es ep,o.data=.dict es ep) (hL:I≠L) (hu:∀ n so,σ.hp.get n=some so→ρ n≠some I) (hf:∀ o,¬ fz I o):SR P ν hG (dX fz I (iE o)) L ρ σ s:=by
 refine ⟨λb ob e=>?_,yO S.fc λo' e=>absurd e (hf o'),S.gk,λb ob e=>.inl (S.gd b ob e),S.loc,λob e=>?_,λn so e=>?_,S.inj,S.dom⟩
 ·rcases e with e | ⟨rfl,rfl⟩
  ·exact S.fzk b ob e
  ·exact .Tj ho hd
 ·rcases e with e | ⟨e,_⟩
  ·exact S.Lf _ e
  ·exact hL e.symm
 ·obtain ⟨a,ob,h1,h2,h3,h4,h5⟩:=S.hp n so e
  refine ⟨a,ob,h1,h2,h3,h4,λhs o' q=>?_⟩
  rcases q with q | ⟨rfl,_⟩
  ·exact h5 hs _ q
  ·exact hu n so e h1
theorem SR.Qs {I:Addr} {o:Obj} (S:SR P ν hG (dX fz I (iE o)) L ρ σ s) (hg:∀ b o,hG.get? b=some o→fz b o) (hd:∃ es ep,o.data=.dict es ep):SR P ν hG fz L ρ σ s∧(∃ o',s.heap.get? I=some o'∧o'.data=o.data)∧I≠L∧∀ n so,σ.hp.get n=some so→ρ n≠some I:=by
 obtain ⟨o',k1,k2,_⟩:=S.fzk I (iE o) (.inr ⟨rfl,rfl⟩)
 refine ⟨⟨λb ob e=>S.fzk b ob (.inl e),λb o1 o2 e1 e2=>S.fc b o1 o2 (.inl e1) (.inl e2),S.gk,hg,S.loc,λob e=>S.Lf ob (.inl e),λn so e=>?_,S.inj,S.dom⟩,⟨o',k1,k2⟩,λe=>?_,λn so e q=>?_⟩
 ·obtain ⟨a,ob,h1,h2,h3,h4,h5⟩:=S.hp n so e
  exact ⟨a,ob,h1,h2,h3,h4,λhs o' q=>h5 hs o' (.inl q)⟩
 ·exact S.Lf (iE o) (.inr ⟨e.symm,rfl⟩)
 ·obtain ⟨a,ob,h1,h2,h3,h4,h5⟩:=S.hp n so e
  rw [h1] at q
  cases q
  cases hs:ag so with
  | false=>exact h5 hs (iE o) (.inr ⟨rfl,rfl⟩)
  | true =>
   rw [k1] at h2
   cases h2
   obtain ⟨es,ep,hd⟩:=hd
   cases so with
   | tup xs=>obtain ⟨vs,n,e,_⟩:=h3; rw [e] at k2; have k2:Data.seq vs.toArray n=o.data:=k2; rw [hd] at k2; cases k2
   | _=>cases hs
theorem SR.fresh (S:SR P ν hG fz L ρ σ s):s.heap.objs.size≠L∧(∀ n so,σ.hp.get n=some so→ρ n≠some s.heap.objs.size)∧∀ o,¬ fz s.heap.objs.size o:=by
 have no:∀ o,s.heap.get? s.heap.objs.size≠some o:=λo e=>absurd (bE e) (Nat.lt_irrefl _)
 refine ⟨λe=>?_,λn so e q=>?_,λo e=>let ⟨o2,z⟩:=(S.fzk _ _ e).at; no o2 z⟩
 ·obtain ⟨m,⟨o,_,_,ho,_⟩,_⟩:=S.loc
  exact no o (e▸ho)
 ·obtain ⟨a,ob,h1,h2,_⟩:=S.hp n so e
  rw [q] at h1
  cases h1
  exact no _ h2
end
def kM (es:List (Nat×SV)):Bool:=List.rec (motive:=λ_=>Bool) true (λp r ih=>cond (lk r p.1).isSome false ih) es
theorem uT {k:Nat} {l:List (Nat×SV)}:k∈l.map (·.1)→(lk l k).isSome=true:=by
 induction l with
 | nil=>exact λh=>nomatch h
 | cons y l ih =>
  intro h
  rw [aQ]
  by_cases z:y.1=k
  ·rw [if_pos z]; rfl
  ·rw [if_neg z]
   exact fY h (λw=>absurd w.symm z) ih
theorem CK {es:List (Nat×SV)} (h:kM es=true):(es.map (·.1)).Nodup:=by
 induction es with
 | nil=>exact List.nodup_nil
 | cons p r ih =>
  replace h:cond (lk r p.1).isSome false (kM r)=true:=h
  cases q:(lk r p.1).isSome with
  | true=>rw [q] at h; exact nomatch h
  | false =>
   rw [q] at h
   exact List.nodup_cons.mpr ⟨λhm=>Bool.false_ne_true (q.symm.trans (uT hm)),ih h⟩
section
variable {P:Params} {ν:Nat→Int} {ρ:Nm}
theorem dk.pairs {prog:Program} {w:World} {es:List (Nat×SV)} {es':List DictEntry} (q:dk w.params ν ρ es es'):Pairs (strKind prog w) es' ((es.zip es').map λp=>(dec p.1.1,p.2.val)) :=
 q.ind (motive:=λes es'=>Pairs (strKind prog w) es' ((es.zip es').map λp=>(dec p.1.1,p.2.val))) .nil λp r e es h _ ih=>show Pairs _ (e::es) ((dec p.1,e.val)::((r.zip es).map λp=>(dec p.1.1,p.2.val))) from .cons (h.1.elim λk hk=>by rw [hk]; exact strKind_is prog w _ _) rfl ih
theorem dk.Ai {es:List (Nat×SV)} {es':List DictEntry} (q:dk P ν ρ es es'):((es.zip es').map λp=>(dec p.1.1,p.2.val)).map (·.1)=es.map λp=>dec p.1 :=
 q.ind (motive:=λes es'=>((es.zip es').map λp=>(dec p.1.1,p.2.val)).map (·.1)=es.map λp=>dec p.1) rfl λp _ _ _ _ _ ih=>congrArg (dec p.1::·) ih
theorem yP {es:List (Nat×SV)} (h:(es.map (·.1)).Nodup):(es.map λp=>dec p.1).Nodup:=by
 have:(es.map λp=>dec p.1)=(es.map (·.1)).map dec:=by simp
 rw [this]
 generalize es.map (·.1)=l0 at h
 induction l0 with
 | nil=>exact List.nodup_nil
 | cons a l ih =>
  rw [List.map_cons,List.nodup_cons]
  rw [List.nodup_cons] at h
  refine ⟨λhm=>?_,ih h.2⟩
  obtain ⟨b,hb,e⟩:=List.mem_map.mp hm
  exact h.1 (fX e▸hb)
end
def UI (l:List (Nat×SV)):Nat→Option Nat:=List.rec (motive:=λ_=>Nat→Option Nat) (λ_=>none) (λp _ ih n=>Nat.rec (motive:=λ_=>Option Nat) (some p.1) (λn _=>ih n) n) l
theorem JO (l:List (Nat×SV)):∀ n:Nat,UI l n=(l[n]?).map (·.1):=by
 induction l with
 | nil=>exact λ_=>rfl
 | cons p r ih =>
  intro n
  cases n with
  | zero=>rfl
  | succ n=>exact ih n
def ZA (n:Nat) (o:SO):Option (Nat×Nat×Nat):=SO.rec (motive:=λ_=>Option (Nat×Nat×Nat)) (λ_ _=>none) (λes=>cond (kM es) (some (n,3,es.length)) none) (λ_=>some (n,0,0)) (λ_=>some (n,1,0)) (λm=>cond (Nat.blt m 1000000) (some (n,2,m)) none) none (λ_=>none) o
def dS (H:Hp) (x:SV):Option (Nat×Nat×Nat):=qC x (λn=>ob (H.get n) (ZA n)) none
def UJ (kd len i:Nat) (o:SO):Option (Option SV):=SO.rec (motive:=λ_=>Option (Option SV)) (λ_ _=>none)
 (λes=>cond (Nat.beq kd 3) (cond (Nat.beq es.length len&&kM es) (some (Option.rec (motive:=λ_=>Option SV) none (λk=>some (.str k)) (UI es i))) none) none)
 (λxs=>cond (Nat.beq kd 0) (some (sO xs i)) none) (λxs=>cond (Nat.beq kd 1) (some (sO xs i)) none)
 (λm=>cond (Nat.beq kd 2) (cond (Nat.beq m len) (some (cond (Nat.blt i m) (some (.int (.c i))) none)) none) none) none (λ_=>none) o
def itemAt (H:Hp) (n kd len i:Nat):Option (Option SV):=ob (H.get n) (UJ kd len i)
theorem fF {α:Type} {a b:Nat} {x:Option α} {r:α} (e:cond (Nat.beq a b) x none=some r):a=b∧x=some r:=by
 cases z:Nat.beq a b with
 | false=>rw [z] at e; exact nS e
 | true=>rw [z] at e; exact ⟨ar z,e⟩
noncomputable def eP (kd len:Nat) (a I:Addr) (i:Nat) (h:Heap):Prop:=match kd with
 | 0=>h.IsListIter I a i
 | 1=>h.IsTupleIter I a i
 | 2=>IsRangeIter h I (i:Int) ((len:Int) - (i:Int)) 1
 | 3=>h.IsKeyIter I a i len len
 | _=>False
structure kN (c:Cx) (ρ:Nm) (σ:SS) (s:Shared) (n kd len:Nat) (I:Addr) (i:Nat):Prop where
 it:∃ a,ρ n=some a∧eP kd len a I i s.heap∧a≠I
 neL:I≠c.L
 un:∀ n so,σ.hp.get n=some so→ρ n≠some I
 nf:∀ o,¬ c.fz I o
 le:kd=2→i≤len
section
variable {c:Cx} {ρ₀:Nm} {env:Env} {K:Frag} {mg mb:Str→Option Value}
theorem dk.yQ {P:Params} {ν:Nat→Int} {ρ:Nm} {es:List (Nat×SV)} {es':List DictEntry} (q:dk P ν ρ es es'):((es.zip es').map λp=>(dec p.1.1,p.2.val)).length=es.length:=by rw [List.length_map,List.length_zip,q.length,Nat.min_self]
theorem kP {prog:Program} {w:World} {ν:Nat→Int} {ρ:Nm} {h:Heap} {a:Addr} {es:List (Nat×SV)} {es':List DictEntry} (h1:h.get? a=some (dictOf es' es'.length)) (h2:dk w.params ν ρ es es') (z:kM es=true):h.DictAt (strKind prog w) a ((es.zip es').map λp=>(dec p.1.1,p.2.val)) es'.length :=
 ⟨_,es'.toArray,h1,⟨rfl,rfl,rfl⟩,rfl,λe he=>dk.keys h2 e (List.mem_toArray.mp he),h2.pairs,by rw [h2.Ai]; exact yP (CK z)⟩
theorem c9 {σ:SS} {s:Shared} {ρ:Nm} {x:SV} {v:Value} {n kd len:Nat} {Q E:Value→Shared→Prop} (G:Gd K mg mb c.hG) (S:c.SR ρ σ s) (hx:VR c.ν ρ x v) (e:dS σ.hp x=some (n,kd,len))
 (hQ:∀ I s',c.SR ρ σ s'→kN c ρ σ s' n kd len I 0→aT s s'→Q (.ref I) s'):wpAny c.M c.A (pyIter v) Q E s:=by
 revert e
 refine dG (p:=λq=>q=some (n,kd,len)→wpAny c.M c.A (pyIter v) Q E s) (λm ex e=>aS e λso q e=>?_) λe=>nS e
 subst ex
 obtain ⟨a,hn,rfl⟩:=hx
 have go:∀ {o I:Obj},s.heap.get? a=some o→m=n→I.isFreed=false→eP kd len a s.heap.objs.size 0 (s.heap.push I)→Q (.ref s.heap.objs.size) { s with heap:=s.heap.push I }:=λho en hI h =>
  let ⟨f1,f2,f3⟩:=S.fresh
  hQ _ _ (S.grow (t:=s.toks) λb o e=>cK _ e) ⟨⟨a,en▸hn,h,Nat.ne_of_lt (bE ho)⟩,f1,f2,f3,λ_=>Nat.zero_le _⟩ (.mk _ _ _)
 clear hQ
 cases so with
 | inst _ _ | ilist | cell _=>exact nS e
 | list xs =>
  obtain ⟨vs,k,h1,h2⟩:=S.list q hn
  cases (show some (m,0,0)=some (n,kd,len) from e)
  exact wpAny_pyIter_list (ao h1) (go h1 rfl rfl ⟨_,Heap.get?_push_size _ rfl,rfl,rfl⟩)
 | tup xs =>
  obtain ⟨vs,k,h1,h2⟩:=S.tup q hn
  cases (show some (m,1,0)=some (n,kd,len) from e)
  exact wpAny_pyIter_tuple (eO h1) (go h1 rfl rfl ⟨_,Heap.get?_push_size _ rfl,rfl,rfl⟩)
 | rng j =>
  refine aw (o:=some (m,2,j)) e λz e=>?_
  cases e
  have hj:=aC.mp z
  obtain ⟨b,ob,h1,h2,h3,_⟩:=S.hp _ _ q
  obtain ⟨t,u,v',rfl⟩:=h3
  rw [hn] at h1; cases h1
  refine wpAny_pyIter_range h2 (small_one (by omega) (by omega) (by omega) (by omega)) (go h2 rfl rfl ?_)
  show IsRangeIter _ _ _ _ _
  have:Builtin.Range.rangeSize 0 (len:Int) 1=(len:Int) - ((0:Nat):Int):=by rw [rangeSize_one]; split<;>omega
  rw [this]
  exact Heap.get?_push_size _ rfl
 | dict es =>
  refine aw (o:=some (m,3,es.length)) e λz e=>?_
  cases e
  obtain ⟨es',h1,h2⟩:=S.jH q hn
  refine wpAny_pyIter_dict (S.me G q hn) (kP h1 h2 z) (go h1 rfl rfl ⟨_,Heap.get?_push_size _ rfl,rfl,?_⟩)
  rw [h2.yQ,h2.length]
  rfl
theorem iO {σ:SS} {s:Shared} {ρ:Nm} {n kd len i:Nat} {I:Addr} {r:Option SV} {Q:Option Value→Shared→Prop} {E:Value→Shared→Prop} (hh:c.A.handled=none) (S:c.SR ρ σ s) (J:kN c ρ σ s n kd len I i)
 (e:itemAt σ.hp n kd len i=some r)
 (hN:r=none→∀ s',c.SR ρ σ s'→aT s s'→Q none s')
 (hS:∀ x,r=some x→∀ s' v,c.SR ρ σ s'→VR c.ν ρ x v→kN c ρ σ s' n kd len I (i+1)→aT s s'→Q (some v) s'):wpAny c.M c.A (pyNext (.ref I)) Q E s:=by
 obtain ⟨⟨a,hn,hit,hne⟩,hL,hu,hf,hle⟩:=J
 have fin:∀ {h':Heap} {t:Nat},Heap.ExtBut I s.heap h'→r=none→Q none { s with heap:=h',toks:=t }:=λhe er=>hN er _ (S.other hL hu hf he) (.mk _ _ _)
 have go:∀ {h':Heap} {t:Nat} {x:SV} {v:Value},Heap.ExtBut I s.heap h'→r=some x→VR c.ν ρ x v→eP kd len a I (i+1) h'→(kd=2→i+1≤len)→Q (some v) { s with heap:=h',toks:=t } :=
  λhe er hv h3 hl=>hS _ er _ _ (S.other hL hu hf he) hv ⟨⟨a,hn,h3,hne⟩,hL,hu,hf,hl⟩ (.mk _ _ _)
 clear hN hS
 refine aS e λso q e0=>?_
 clear e
 cases so with
 | inst _ _ | ilist | cell _=>exact nS e0
 | list xs =>
  obtain ⟨ek,e⟩:=fF e0
  clear e0
  subst ek
  replace e:=(aD e).symm.trans (mf _ _)
  obtain ⟨vs,k,h1,h2⟩:=S.list q hn
  cases z:xs[i]? with
  | none=>exact wpAny_pyNext_list_end hh hit (ao h1) (by rw [List.getElem?_toArray]; rw [List.getElem?_eq_none_iff] at z ⊢; rw [h2.length]; exact z) λh' he=>fin he (e.trans z)
  | some x =>
   obtain ⟨v,g1,g2⟩:=h2.get z
   exact wpAny_pyNext_list_item hit (ao h1) (by rw [List.getElem?_toArray]; exact g1) λh' h3 hs=>go hs.extBut (e.trans z) g2 h3 λe=>nomatch e
 | tup xs =>
  obtain ⟨ek,e⟩:=fF e0
  clear e0
  subst ek
  replace e:=(aD e).symm.trans (mf _ _)
  obtain ⟨vs,k,h1,h2⟩:=S.tup q hn
  cases z:xs[i]? with
  | none=>exact wpAny_pyNext_tuple_end hh hit (eO h1) (by rw [List.getElem?_toArray]; rw [List.getElem?_eq_none_iff] at z ⊢; rw [h2.length]; exact z) λh' he=>fin he (e.trans z)
  | some x =>
   obtain ⟨v,g1,g2⟩:=h2.get z
   exact wpAny_pyNext_tuple_item hit (eO h1) (by rw [List.getElem?_toArray]; exact g1) λh' h3 hs=>go hs.extBut (e.trans z) g2 h3 λe=>nomatch e
 | rng m =>
  obtain ⟨ek,e⟩:=fF e0
  clear e0
  subst ek
  obtain ⟨el,e1⟩:=fF e
  clear e
  subst el
  have e:=aD e1
  clear e1
  have hle:=hle rfl
  cases z2:Nat.blt i m with
  | false =>
   rw [z2] at e
   have:m≤i:=Nat.not_lt.mp λq=>Bool.false_ne_true (z2.symm.trans (aC.mpr q))
   exact wpAny_pyNext_range_end hh hit (by omega) λh' he=>fin he e.symm
  | true =>
   rw [z2] at e
   have hlt:=aC.mp z2
   refine wpAny_pyNext_range_item hit (by omega) λh' h3 hs=>go hs.extBut e.symm ⟨s.toks,rfl⟩ ?_ λ_=>hlt
   show IsRangeIter h' I _ _ _
   rw [show (m:Int) - ((i+1:Nat):Int)=(m:Int) - (i:Int) - 1 from by omega]
   exact h3
 | dict es =>
  obtain ⟨ek,e⟩:=fF e0
  clear e0
  subst ek
  refine aw e λz e1=>dW z λzl zn=>?_
  clear e z
  replace zl:=ar zl
  subst zl
  have e:=e1
  clear e1
  obtain ⟨es',h1,h2⟩:=S.jH q hn
  have hl:=h2.yQ
  have hm:=h2.length▸kP (prog:=c.prog) (w:=c.w) h1 h2 zn
  have hit':s.heap.IsKeyIter I a i ((es.zip es').map λp=>(dec p.1.1,p.2.val)).length es.length:=by rw [hl]; exact hit
  rw [JO] at e
  cases z3:es[i]? with
  | none =>
   rw [z3] at e
   refine wpAny_pyNext_dict_end hh hit' hm ?_ λh' he=>fin he (aD e).symm
   rw [List.getElem?_eq_none_iff] at z3 ⊢
   rw [hl]; exact z3
  | some p =>
   rw [z3] at e
   have hlt':i<es'.length:=by rw [h2.length]; exact (List.getElem?_eq_some_iff.mp z3).1
   have hx:((es.zip es').map λp=>(dec p.1.1,p.2.val))[i]?=some (dec p.1,es'[i].val):=by
    rw [List.getElem?_map,show (es.zip es')[i]?=some (p,es'[i]) from List.getElem?_zip_eq_some.mpr ⟨z3,List.getElem?_eq_getElem hlt'⟩]
    rfl
   refine wpAny_pyNext_dict_item hit' hm hx λkey h' hk h3 hs=>?_
   obtain ⟨t,rfl⟩:=Value.isStrOf_shape hk
   exact go hs.extBut (aD e).symm ⟨t,rfl⟩ (by rw [hl] at h3; exact h3) λe=>nomatch e
end
def bG (lo:Lo) (ce:CE) (l:List Stmt):RM FL:=List.rec (motive:=λ_=>RM FL) (RM.ret .next)
 (λs _ ih=>RM.az (lo.S ce s) λf=>FL.rec (motive:=λ_=>RM FL) ih (RM.ret .cont) (λv=>RM.ret (.ret v)) f) l
theorem sW {lo:Lo} {ce:CE} {s:Stmt} {r:List Stmt}:bG lo ce (s::r)=RM.az (lo.S ce s) λf=>FL.rec (motive:=λ_=>RM FL) (bG lo ce r) (RM.ret .cont) (λv=>RM.ret (.ret v)) f:=rfl
section
variable {D:Ds} {n:Nat} {lo:Lo} {c:Cx} {ρ₀:Nm} {env:Env} {ce:CE} {K:Frag} {mg mb:Str→Option Value} {cls:List (Nat×dn)}
theorem iG.mono {ν:Nat→Int} {ρ ρ':Nm} (h:Ext ρ ρ') {f:FL} {v:Flow} (q:iG ν ρ f v):iG ν ρ' f v:=by
 cases f with
 | next=>exact q
 | cont=>exact q
 | ret sv=>obtain ⟨u,h1,h2⟩:=q; exact ⟨u,h1,h2.mono h⟩
noncomputable def UK (go:(Flow→Shared→Prop)→(Value→Shared→Prop)→Shared→Prop) (Q:Flow→Shared→Prop) (E:Value→Shared→Prop):Flow→Shared→Prop:=λf s=>match f with | .next=>go Q E s | f=>Q f s
theorem dJ (ok:bR D n lo) (co:c.Of D) (rm:Rm c n) (ss:List Stmt):∀ {ρ₀:Nm} {env:Env},aG c ρ₀ ce env→aJ c ρ₀ (bG lo ce ss) (execs ss env) (iG c.ν):=by
 induction ss with
 | nil=>exact λ_=>aJ.known (v:=Flow.next) (R:=iG c.ν) (λ_ _=>(rfl:Flow.next=Flow.next)) λs Q E q=>wpAny_execs_nil q
 | cons s r ih =>
  intro ρ₀ env eo
  rw [sW]
  refine a0.snd (W:=λQ E s₀=>wpAny c.M c.A (exec s env) (UK (wpAny c.M c.A (execs r env)) Q E) E s₀)
   (((ok.S c ρ₀ ce env s co rm eo).w).bind (W':=λf Q E s'=>UK (wpAny c.M c.A (execs r env)) Q E f s') λρ₁ f v x1 r1=>?_) λQ E s h=>bL (bI h (λf s h=>by cases f<;>exact h) λ_ _ h=>h)
  cases f with
  | next =>
   replace r1:v=Flow.next:=r1
   subst r1
   exact (ih (eo.mono x1)).w
  | cont =>
   replace r1:v=Flow.cont:=r1
   subst r1
   exact a0.ret (a:=FL.cont) (v:=Flow.cont) (R:=iG c.ν) λ_ _=>(rfl:Flow.cont=Flow.cont)
  | ret sv =>
   obtain ⟨u,rfl,h2⟩:=r1
   exact a0.ret (a:=FL.ret sv) (v:=Flow.ret u) (R:=iG c.ν) λρ x=>⟨u,rfl,h2.mono x⟩
theorem aG.at {c c':Cx} {ρ:Nm} (h:aG c ρ ce env) (hL:c'.L=c.L):aG c' ρ ce env:=⟨h.kind,h.names,h.L.trans hL.symm,h.g,h.b,h.cells⟩
noncomputable def Cx.dX (c:Cx) (I:Addr) (o:Obj):Cx:={ c with fz:=Mine.dX c.fz I o }
set_option backward.match.sparseCases true in
theorem fG {target:Expr} {I:Addr} {v:Value} {o:Obj} {T:String} {A:Around} {M:Model} {E:Value→Shared→Prop} {s:Shared} {Q:Unit→Shared→Prop} (ho:s.heap.get? I=some o) (hc:o.cls=.type T)
 (hT:(["enumerate","zip","dict_itemiterator","dict_reverseitemiterator","odict_iterator","itertools.zip_longest","itertools.pairwise"].contains T)=false) (hQ:Q () s):wpAny M A (letOwnedTupleGo target (.ref I) v) Q E s:=by
 have core:∀ a,wpAny M A (load I >>= λo=>match o.cls,o.data with
  | .type n,.fields vs =>
   if (["enumerate","zip","dict_itemiterator","dict_reverseitemiterator","odict_iterator","itertools.zip_longest","itertools.pairwise"].contains n&&vs[0]? == some (rawInt a))=true then do
    rule "for.unpacks-the-owned-tuple"
    updateField I 0 .none
   else pure ()
  | _,_=>pure ()) Q E s:=by
  intro a
  refine aF (wpAny_load ho ?_)
  obtain ⟨oc,od,oda,osl⟩:=o
  dsimp only at hc
  subst hc
  cases oda<;>first | exact aP hQ | skip
  dsimp only
  rw [hT,Bool.false_and,if_neg (by decide)]
  exact aP hQ
 unfold letOwnedTupleGo
 cases target<;>first | exact aP hQ | skip
 ·cases v<;>first | exact core _ | exact aP hQ
 ·cases v<;>first | exact core _ | exact aP hQ
theorem eP.obj {kd len:Nat} {a I:Addr} {i:Nat} {h:Heap} (x:eP kd len a I i h):∃ o T,h.get? I=some o∧o.cls=.type T ∧
 (["enumerate","zip","dict_itemiterator","dict_reverseitemiterator","odict_iterator","itertools.zip_longest","itertools.pairwise"].contains T)=false∧T ≠ "tuple" := by
 match kd,x with
 | 0,x=>exact x.elim λo h=>⟨o,_,h.1,h.2.1,by decide,by decide⟩
 | 1,x=>exact x.elim λo h=>⟨o,_,h.1,h.2.1,by decide,by decide⟩
 | 2,x=>exact ⟨_,_,x,rfl,by decide,by decide⟩
 | 3,x=>exact x.elim λo h=>⟨o,_,h.1,h.2.1,by decide,by decide⟩
 | _+4,x=>exact x.elim
theorem eP.congr {kd len:Nat} {a I:Addr} {i:Nat} {h h':Heap} (x:eP kd len a I i h) (e:h'.get? I=h.get? I):eP kd len a I i h':=by
 match kd,x with
 | 0,x=>exact x.elim λo h=>⟨o,e.trans h.1,h.2⟩
 | 1,x=>exact x.elim λo h=>⟨o,e.trans h.1,h.2⟩
 | 2,x=>exact e.trans x
 | 3,x=>exact x.elim λo h=>⟨o,e.trans h.1,h.2⟩
 | _+4,x=>exact x.elim
theorem Aj {α β:Type} {m:RM α} {W:PT β} {R:Nm→α→β→Prop} {k kd len:Nat} {I:Addr} {i:Nat} (h:∀ o,a0 (c.dX I o) ρ₀ m W R) {σ:SS} {outs:List (α×SS)} (e:m σ=some outs) {ρ:Nm} {s:Shared} (x:Ext ρ₀ ρ)
 (gdd:∀ b o,c.hG.get? b=some o→c.fz b o) (S:c.SR ρ σ s) (J:kN c ρ σ s k kd len I i) {Q:β→Shared→Prop} {E:Value→Shared→Prop}
 (hQ:∀ y σ' ρ' s' v,(y,σ')∈outs→Ext ρ ρ'→c.SR ρ' σ' s'→kN c ρ' σ' s' k kd len I i→R ρ' y v→aT s s'→Q v s'):W Q E s:=by
 obtain ⟨⟨a,hn,hit,hne⟩,hL,hu,hf,hle⟩:=J
 obtain ⟨o,T,ho,qi,_,hT⟩:=hit.obj
 refine h o σ outs e ρ s x (SR.freeze S ho hL hu hf) Q E λy σ' ρ' s' v hm x' S' r sm=>?_
 obtain ⟨S2,ho2,hL2,hu2⟩:=SR.FN S' gdd (λvs n e=>by subst e; exact hT (by cases qi; rfl)) (by rw [qi]; exact (λq=>nomatch q))
 exact hQ y σ' ρ' s' v hm x' S2 ⟨⟨a,x' _ _ hn,hit.congr (ho2.trans ho.symm),hne⟩,hL2,hu2,hf,hle⟩ r sm
end
def yR (cls:List (Nat×dn)) (lo:Lo) (ce:CE) (target:Expr) (body:List Stmt) (x:SV):RM FL:=RM.az (dR cls lo ce x target) λ_=>bG lo ce body
def Ze (go:RM FL) (f:FL):RM FL:=FL.rec (motive:=λ_=>RM FL) go go (λv=>RM.ret (.ret v)) f
def yS (cls:List (Nat×dn)) (lo:Lo) (ce:CE) (target:Expr) (body:List Stmt) (n kd len:Nat) (f:Nat):Nat→RM FL:=Nat.rec (motive:=λ_=>Nat→RM FL) (λ_=>RM.bad)
 (λ_ ih i σ=>ob (itemAt σ.hp n kd len i) λr=>iX r (λx=>RM.az (yR cls lo ce target body x) (Ze (ih (i+1))) σ) (some [(.next,σ)])) f
section
variable {D:Ds} {n:Nat} {lo:Lo} {c:Cx} {ρ₀:Nm} {env:Env} {ce:CE} {K:Frag} {mg mb:Str→Option Value} {cls:List (Nat×dn)}
theorem uU (ok:bR D n lo) (co:c.Of D) (rm:Rm c n) (G:Gd K mg mb c.hG) (hc:cq K cls) (eo:aG c ρ₀ ce env) {x:SV} {v:Value} (hv:VR c.ν ρ₀ x v) (target:Expr) (body:List Stmt) :
 a0 c ρ₀ (yR cls lo ce target body x) (λQ E s=>wpAny c.M c.A (assign target env v) (λ_ s₂=>wpAny c.M c.A (execs body env) Q E s₂) E s) (iG c.ν) :=
 ((dc ok co rm G hc eo hv target).w).bind λρ₁ _ _ x1 _=>(dJ ok co rm body (eo.mono x1)).w
theorem Cx.Of.dX {I:Addr} {o:Obj} (h:c.Of D):(c.dX I o).Of D:=⟨h.prog,h.w,h.ν,h.hG⟩
theorem Rm.dX {I:Addr} {o:Obj} {k:Nat} (h:Rm c k):Rm (c.dX I o) k:=h.fz (c':=c.dX I o) rfl rfl rfl λ_ _ e=>.inl e
noncomputable def RQ (c:Cx) (ρ:Nm) (outs:List (FL×SS)) (R:Result→Shared→Prop) (s:Shared):Prop:=∀ y σ' ρ' s' v,(y,σ')∈outs→Ext ρ ρ'→c.SR ρ' σ' s'→iG c.ν ρ' y v→y≠.cont→aT s s'→R (.ok v) s'
inductive JF (c:Cx) (cls:List (Nat×dn)) (lo:Lo) (ce:CE) (ρ₀:Nm) (target:Expr) (body:List Stmt) (m kd len:Nat) (I:Addr) (R:Result→Shared→Prop) (k:Nat) (s:Shared):Prop
 | mk (i:Nat) (σ:SS) (outs:List (FL×SS)) (ρ:Nm) (e:yS cls lo ce target body m kd len k i σ=some outs) (x:Ext ρ₀ ρ) (S:c.SR ρ σ s) (J:kN c ρ σ s m kd len I i) (hR:RQ c ρ outs R s)
theorem FP (ok:bR D n lo) (co:c.Of D) (rm:Rm c n) (G:Gd K mg mb c.hG) (hc:cq K cls) (eo:aG c ρ₀ ce env) {target:Expr} {body:List Stmt} {m kd len:Nat} {I:Addr} {R:Result→Shared→Prop}
 (gdd:∀ b o,c.hG.get? b=some o→c.fz b o) {f i:Nat} {σ:SS} {outs:List (FL×SS)} {ρ:Nm} {s:Shared} (e:yS cls lo ce target body m kd len f i σ=some outs) (x:Ext ρ₀ ρ) (S:c.SR ρ σ s) (J:kN c ρ σ s m kd len I i)
 (hR:RQ c ρ outs R s):codeAny c.M c.A (.forLoop target (.ref I) body [] env) R s:=by
 refine ZU (JF c cls lo ce ρ₀ target body m kd len I R) ?_ f (.mk i σ outs ρ e x S J hR)
 clear hR J S x e s ρ outs σ i f
 rintro k s ⟨i,σ,outs,ρ,e,x,S,J,hR⟩
 cases k with
 | zero=>exact nS e
 | succ f =>
  ·refine aS e λr q e=>?_
   refine iO rm.hh S J q (λhr s' S' sm=>?_) (λy hr s1 v S1 r1 J1 sm1=>?_)
   ·subst hr
    rw [← aD e] at hR
    exact hR .next σ ρ s' .next (.head _) (.refl _) S' rfl (λe=>nomatch e) sm
   ·subst hr
    obtain ⟨a,hn,hit,hne⟩:=J1.it
    obtain ⟨o,T,ho,qi,hT,_⟩:=hit.obj
    refine fG ho qi hT ?_
    obtain ⟨l,hl,hg⟩:=RM.aO e
    refine Aj (c:=c) (ρ₀:=ρ) (R:=iG c.ν) (W:=λQ E s=>wpAny c.M c.A (assign target env v) (λ_ s₂=>wpAny c.M c.A (execs body env) Q E s₂) E s)
     (λo=>uU (c:=c.dX I o) ok co.dX rm.dX G hc (((eo.mono x).at rfl)) r1 target body) hl (.refl _) gdd S1 J1 (λfl σ' ρ' s' w hm x' S' J' r' sm'=>?_)
    obtain ⟨o2,ho2,hs2⟩:=hg _ hm
    have next:(fl=.next∨fl=.cont)→nE (JF c cls lo ce ρ₀ target body m kd len I R) (f+1) s':=λhfl =>
     ⟨f,Nat.lt_succ_self _,.mk (i+1) σ' o2 ρ' (by rcases hfl with rfl | rfl<;>exact ho2) (x.trans x') S' J' λy σ'' ρ'' s'' v hy x'' S'' r'' ny sm''=>hR y σ'' ρ'' s'' v (hs2 _ hy) (x'.trans x'') S'' r'' ny (sm1.trans (sm'.trans sm''))⟩
    cases fl with
    | next =>
     replace r':w=Flow.next:=r'
     subst r'
     exact next (.inl rfl)
    | cont =>
     replace r':w=Flow.cont:=r'
     subst r'
     exact next (.inr rfl)
    | ret sv =>
     obtain ⟨u,rfl,h2⟩:=r'
     exact hR (.ret sv) σ' ρ' s' (.ret u) (hs2 _ (aD ho2▸.head _)) x' S' ⟨u,rfl,h2⟩ (λe=>nomatch e) (sm1.trans sm')
end
noncomputable def isSet:Expr→Bool
 | .Set _ _ _=>true
 | _=>false
theorem nO {e:Expr} {env:Env} {x:Value} (h:isSet e=false):foldedSetIterable e env x=pure x:=by
 cases e<;>first | rfl | cases h
def FQ (cls:List (Nat×dn)) (lo:Lo) (ce:CE) (target iter:Expr) (body:List Stmt):RM FL:=cond (isSet iter) RM.bad (RM.az (lo.E ce iter) λx=>λσ=>ob (dS σ.hp x) λq=>yS cls lo ce target body q.1 q.2.1 q.2.2 64 0 σ)
def jL (lo:Lo) (ce:CE) (test:Expr) (body:List Stmt) (f:Nat):RM FL:=Nat.rec (motive:=λ_=>RM FL) RM.bad
 (λ_ ih=>RM.az (lo.B ce test) λb=>cond b (RM.az (bG lo ce body) (Ze ih)) (RM.ret .next)) f
section
variable {D:Ds} {n:Nat} {lo:Lo} {c:Cx} {ρ₀:Nm} {env:Env} {ce:CE} {K:Frag} {mg mb:Str→Option Value} {cls:List (Nat×dn)}
theorem JP (ok:bR D n lo) (co:c.Of D) (rm:Rm c n) (G:Gd K mg mb c.hG) (hc:cq K cls) (eo:aG c ρ₀ ce env) (target iter:Expr) (body:List Stmt) {p:Pos} :
 aJ c ρ₀ (FQ cls lo ce target iter body) (exec (.For target iter body [] p) env) (iG c.ν):=by
 unfold FQ
 cases hi:isSet iter with
 | true=>exact aJ.bad
 | false =>
  dsimp only [cond_false]
  intro σ outs e ρ s x S Q E hQ
  obtain ⟨l,hl,hg⟩:=RM.aO e
  refine wpAny_For (ok.E c ρ₀ ce env iter co rm eo σ l hl ρ s x S _ E λv σ1 ρ1 s1 vv hm x1 S1 r1 sm1=>?_) λx=>nO hi
  obtain ⟨o,ho,hs⟩:=hg _ hm
  refine aS ho λst q ho=>?_
  ·refine c9 G S1 r1 q λI s2 S2 J2 sm2=>?_
   refine FP ok co rm G hc (eo.mono (x.trans x1)) S2.gd ho (.refl _) S2 J2 λy σ3 ρ3 s3 w hy x3 S3 r3 ny sm3=>?_
   exact hQ y σ3 ρ3 s3 w (hs _ hy) (x1.trans x3) S3 r3 (sm1.trans (sm2.trans sm3))
inductive JW (c:Cx) (lo:Lo) (ce:CE) (test:Expr) (body:List Stmt) (ρ:Nm) (outs:List (FL×SS)) (s:Shared) (k:Nat) (s':Shared):Prop
 | mk (σ':SS) (outs':List (FL×SS)) (ρ':Nm) (e:jL lo ce test body k σ'=some outs') (x:Ext ρ ρ') (S:c.SR ρ' σ' s') (sm:aT s s') (h:∀ y∈outs',y∈outs)
theorem CL (ok:bR D n lo) (co:c.Of D) (rm:Rm c n) (eo:aG c ρ₀ ce env) (test:Expr) (body:List Stmt) {p:Pos} (f:Nat) :
 aJ c ρ₀ (jL lo ce test body f) (exec (.While test body [] p) env) (iG c.ν):=by
 intro σ outs e ρ s x S Q E hQ
 refine wpAny_While ?_
 refine codeAny_whileLoop (JW c lo ce test body ρ outs s) ?_ f ⟨σ,outs,ρ,e,.refl _,S,.refl _,λ_ h=>h⟩
 rintro k s1 ⟨σ1,outs1,ρ1,e1,x1,S1,sm1,h1⟩
 cases k with
 | zero=>exact nS e1
 | succ f =>
  obtain ⟨l,hl,hg⟩:=RM.aO (show RM.az (lo.B ce test) (λb=>cond b (RM.az (bG lo ce body) (Ze (jL lo ce test body f))) (RM.ret .next)) σ1=some outs1 from e1)
  refine ok.B c ρ1 ce env test co rm (eo.mono (x.trans x1)) σ1 l hl ρ1 s1 (.refl _) S1 _ _ λb σ2 ρ2 s2 v hm x2 S2 r2 sm2=>?_
  subst r2
  obtain ⟨o,ho,hs⟩:=hg _ hm
  cases v with
  | false=>exact wpAny_execs_nil (hQ .next σ2 ρ2 s2 .next (h1 _ (hs _ (aD ho▸.head _))) (x1.trans x2) S2 rfl (sm1.trans sm2))
  | true =>
   obtain ⟨l2,hl2,hg2⟩:=RM.aO ho
   refine dJ ok co rm body (eo.mono ((x.trans x1).trans x2)) σ2 l2 hl2 ρ2 s2 (.refl _) S2 _ _ λfl σ3 ρ3 s3 w hm3 x3 S3 r3 sm3=>?_
   obtain ⟨o3,ho3,hs3⟩:=hg2 _ hm3
   have next:(fl=.next∨fl=.cont)→∃ m,m<f+1∧JW c lo ce test body ρ outs s m s3:=λhfl =>
    ⟨f,Nat.lt_succ_self _,σ3,o3,ρ3,by rcases hfl with rfl | rfl<;>exact ho3,(x1.trans x2).trans x3,S3,(sm1.trans sm2).trans sm3,λy hy=>h1 _ (hs _ (hs3 _ hy))⟩
   cases fl with
   | next=>replace r3:w=Flow.next:=r3; subst r3; exact next (.inl rfl)
   | cont=>replace r3:w=Flow.cont:=r3; subst r3; exact next (.inr rfl)
   | ret sv =>
    obtain ⟨u,rfl,h2⟩:=r3
    exact hQ (.ret sv) σ3 ρ3 s3 (.ret u) (h1 _ (hs _ (hs3 _ (aD ho3▸.head _)))) ((x1.trans x2).trans x3) S3 ⟨u,rfl,h2⟩ ((sm1.trans sm2).trans sm3)
end
def jM (acc:Nat) (v:SV):RM Unit:=λσ=>ob (gL (σ.hp.get acc)) λxs=>cond (fC xs) (some [((),{ σ with hp:=σ.hp.put acc (.list (xs++[v])) })]) none
section
variable {D:Ds} {n:Nat} {lo:Lo} {c:Cx} {ρ₀:Nm} {env:Env} {ce:CE} {K:Frag} {mg mb:Str→Option Value} {cls:List (Nat×dn)}
theorem nP {acc:Nat} {a:Addr} {v:SV} {vv:Value} (ha:ρ₀ acc=some a) (hv:VR c.ν ρ₀ v vv):aJ c ρ₀ (jM acc v) (call (.builtin "list.append") [.ref a,vv]) (λ_ _ v=>v=.none):=by
 refine aJ.one λσ outs e=>aS e λxs q e=>aw e λz e=>⟨(),_,(aD e).symm,λρ s y S Q E hQ=>?_⟩
 replace q:=jG q
 obtain ⟨vs,m,h1,h2⟩:=S.list q (y _ _ ha)
 have hl:=bK z
 refine wpAny_list_append_plain (items:=vs.toArray) ⟨m,h1⟩ (λh' hp hs=>?_) (by rw [List.size_toArray,h2.length,sizeLine_eq]; omega)
 obtain ⟨m',h3⟩:=hp
 exact hQ ρ _ .none (.refl _) (SR.change (t:=s.toks) (so':=.list (xs++[v])) S q (y _ _ ha) h3 ⟨vs++[vv],m',by simp [bF],h2.append ⟨hv.mono y,trivial⟩⟩ hs) rfl (.mk _ _ _)
end
def FT (lo:Lo) (ce:CE) (l:List Expr):RM Bool:=List.rec (motive:=λ_=>RM Bool) (RM.ret true) (λe _ ih=>RM.az (lo.B ce e) λb=>cond b ih (RM.ret false)) l
def sX (cls:List (Nat×dn)) (lo:Lo) (ce:CE) (target:Expr) (ifs:List Expr) (inner:RM Unit) (x:SV):RM Unit:=RM.az (dR cls lo ce x target) λ_=>RM.az (FT lo ce ifs) λb=>cond b inner (RM.ret ())
def ff (cls:List (Nat×dn)) (lo:Lo) (ce:CE) (target:Expr) (ifs:List Expr) (inner:RM Unit) (n kd len:Nat) (f:Nat):Nat→RM Unit:=Nat.rec (motive:=λ_=>Nat→RM Unit) (λ_=>RM.bad)
 (λ_ ih i σ=>ob (itemAt σ.hp n kd len i) λr=>iX r (λx=>RM.az (sX cls lo ce target ifs inner x) (λ_=>ih (i+1)) σ) (some [((),σ)])) f
def nQ (cls:List (Nat×dn)) (lo:Lo) (ce:CE) (elt:Expr) (acc:Nat) (gs:List Comprehension):RM Unit:=List.rec (motive:=λ_=>RM Unit) (RM.az (lo.E ce elt) λx=>jM acc x)
 (λg _ ih=>cond (isSet g.iter || !(decide (g.is_async=0))) RM.bad (RM.az (lo.E ce g.iter) λx=>λσ=>ob (dS σ.hp x) λq=>ff cls lo ce g.target g.ifs ih q.1 q.2.1 q.2.2 64 0 σ)) gs
section
variable {D:Ds} {n:Nat} {lo:Lo} {c:Cx} {ρ₀:Nm} {env:Env} {ce:CE} {K:Frag} {mg mb:Str→Option Value} {cls:List (Nat×dn)}
noncomputable def uV (env:Env) (ifs:List Expr) (b:Bool):Sem Bool:=forIn ifs b λc r=>if r=true then do let ok ← isTrue c env (eval c env); pure (ForInStep.yield ok) else pure (ForInStep.yield r)
theorem CM {A:Around} {M:Model} {E:Value→Shared→Prop} {s:Shared} {Q:Bool→Shared→Prop} (ifs:List Expr) (h:Q false s):wpAny M A (uV env ifs false) Q E s:=by
 induction ifs with
 | nil=>exact aP h
 | cons e r ih =>
  unfold uV
  rw [List.forIn_cons,if_neg (by decide)]
  exact aF (aP ih)
theorem JQ (ok:bR D n lo) (co:c.Of D) (rm:Rm c n) (ifs:List Expr):∀ {ρ₀:Nm} {env:Env},aG c ρ₀ ce env→aJ c ρ₀ (FT lo ce ifs) (uV env ifs true) (λ_ b v=>v=b):=by
 induction ifs with
 | nil=>exact λ_=>aJ.known (R:=λ_ b v=>v=b) (λ_ _=>rfl) λs Q E q=>aP q
 | cons e r ih =>
  intro ρ₀ env eo σ outs e' ρ s x S Q E hQ
  obtain ⟨l,hl,hg⟩:=RM.aO (show RM.az (lo.B ce e) (λb=>cond b (FT lo ce r) (RM.ret false)) σ=some outs from e')
  unfold uV
  rw [List.forIn_cons,if_pos rfl]
  refine aF (aF (ok.B c ρ₀ ce env e co rm eo σ l hl ρ s x S _ E λb σ1 ρ1 s1 v hm x1 S1 r1 sm1=>aP ?_))
  subst r1
  obtain ⟨o,ho,hs⟩:=hg _ hm
  cases v with
  | true=>exact ih (eo.mono (x.trans x1)) σ1 o ho ρ1 s1 (.refl _) S1 Q E λy σ2 ρ2 s2 w hy x2 S2 r2 sm2=>hQ y σ2 ρ2 s2 w (hs _ hy) (x1.trans x2) S2 r2 (sm1.trans sm2)
  | false=>exact CM r (hQ false σ1 ρ1 s1 false (hs _ (aD ho▸.head _)) x1 S1 rfl sm1)
noncomputable def i4 (e:Expr) (gens:List Comprehension) (depth:Nat) (acc:Value) (env:Env) (emit:Sem Unit):Sem Unit:=match gens[depth+1]? with
 | some g'=>do
  let x ← eval g'.iter env
  standAt g'.iter.pos
  let x ← if g'.is_async != 0 then foldedIterable g'.iter x else foldedSetIterable g'.iter env x
  let _ ← runOwn (.compStart e (depth+1) (← holding [x] (if g'.is_async != 0 then asyncIter x else pyIter x)) acc env) env
 | none=>emit
theorem uW {elt:Expr} {gens:List Comprehension} {scope:Scope} {pos:Pos} {depth:Nat} {it acc:Value} {g:Comprehension} (hg:gens[depth]?=some g) (ha:g.is_async=0) :
 compTurn (.ListComp elt gens scope pos) depth it acc env=(standAt g.iter.pos >>= λ_=>pyNext it >>= λr=>match r with
  | none=>pure (.done .next)
  | some v=>letOwnedTupleGo g.target it v >>= λ_=>assign g.target env v >>= λ_=>uV env g.ifs true >>= λok =>
   if ok=true then i4 (.ListComp elt gens scope pos) gens depth acc env (do let _ ← call (.builtin "list.append") [acc,← eval elt env]) >>= λ_=>again (.compLoop (.ListComp elt gens scope pos) depth it acc env)
   else again (.compLoop (.ListComp elt gens scope pos) depth it acc env)):=by
 unfold compTurn
 dsimp only
 rw [hg]
 dsimp only
 rw [ha]
 simp only [bne_self_eq_false,Bool.false_eq_true,if_false]
 refine congrArg (standAt g.iter.pos >>= ·) (funext λ_=>congrArg (pyNext it >>= ·) (funext λr=>?_))
 cases r with
 | none=>rfl
 | some v =>
  refine congrArg (letOwnedTupleGo g.target it v >>= ·) (funext λ_=>congrArg (assign g.target env v >>= ·) (funext λ_=>congrArg (uV env g.ifs true >>= ·) (funext λok=>?_)))
  cases ok with
  | false=>rfl
  | true =>
   simp only [if_true]
   unfold i4
   cases hq:gens[depth+1]? with
   | none=>rfl
   | some g' =>
    dsimp only
    cases hz:(g'.is_async != 0)<;>simp only [bind_assoc,pure_bind,Bool.false_eq_true,if_false,if_true]
theorem CN {kd len:Nat} {a I:Addr} {i:Nat} {s:Shared} {E Q:Value→Shared→Prop} (h:eP kd len a I i s.heap) (hq:Q (.ref I) s):wpAny c.M c.A (pyIter (.ref I)) Q E s:=by
 match kd,h with
 | 0,h=>exact wpAny_pyIter_listiter h hq
 | 1,h=>exact wpAny_pyIter_tupleiter h hq
 | 2,h=>exact wpAny_pyIter_rangeiter h hq
 | 3,h=>exact wpAny_pyIter_keyiter h hq
 | _+4,h=>exact h.elim
noncomputable abbrev JR (elt:Expr) (gens:List Comprehension) (scope:Scope) (pos:Pos) (depth:Nat) (acc:Value) (env:Env):Sem Unit:=i4 (.ListComp elt gens scope pos) gens depth acc env (do let _ ← call (.builtin "list.append") [acc,← eval elt env])
noncomputable def Zf (c:Cx) (t:Sem Unit) (Q:Unit→Shared→Prop) (E:Value→Shared→Prop) (b:Bool) (s:Shared):Prop:=if b=true then wpAny c.M c.A t Q E s else Q () s
noncomputable def Ly (c:Cx) (env:Env) (target:Expr) (ifs:List Expr) (t:Sem Unit) (v:Value) (Q:Unit→Shared→Prop) (E:Value→Shared→Prop) (s:Shared):Prop:=wpAny c.M c.A (assign target env v) (λ_ s₂=>wpAny c.M c.A (uV env ifs true) (Zf c t Q E) E s₂) E s
noncomputable def UL (c:Cx) (env:Env) (g:Comprehension) (t:Sem Unit) (it:Value) (again done:Shared→Prop):Option Value→Shared→Prop:=λr s1=>match r with
 | none=>done s1
 | some v=>wpAny c.M c.A (letOwnedTupleGo g.target it v) (λ_ s=>Ly c env g.target g.ifs t v (λ_ s=>again s) qD s) qD s1
theorem UM {elt:Expr} {gens:List Comprehension} {scope:Scope} {pos:Pos} {depth:Nat} {g:Comprehension} {it acc:Value} {R:Result→Shared→Prop} {s:Shared} (hg:gens[depth]?=some g) (ha:g.is_async=0) (J:Nat→Shared→Prop)
 (turn:∀ n s,J n s→wpAny c.M c.A (pyNext it) (UL c env g (JR elt gens scope pos depth acc env) it (nE J n) (R (.ok .next))) qD s) (n:Nat) (h:J n s):codeAny c.M c.A (.compLoop (.ListComp elt gens scope pos) depth it acc env) R s:=by
 refine codeAny_loop rfl J (λn s hJ=>?_) n h
 show wpAny _ _ ((compTurn (.ListComp elt gens scope pos) depth it acc env).onRaise (λx=>do noteFrame x env; theTreesLotGoes x)) _ _ s
 refine wpAny_noted ?_
 rw [uW hg ha]
 refine aF (wpAny_standAt (aF (bI (turn n s hJ) (λr s1 h1=>?_) λ_ _ (h:False)=>h.elim)))
 cases r with
 | none=>exact aP h1
 | some v =>
  have h1:wpAny c.M c.A (letOwnedTupleGo g.target it v) (λ_ s=>wpAny c.M c.A (assign g.target env v) (λ_ s₂=>wpAny c.M c.A (uV env g.ifs true) (Zf c (JR elt gens scope pos depth acc env) (λ_ s=>nE J n s) qD) qD s₂) qD s) qD s1:=h1
  refine aF (bI h1 (λ_ s₂ h₂=>aF (bI h₂ (λ_ s₂ h₂=>aF (bI h₂ (λb s₃ h₃=>?_) λ_ _ (h:False)=>h.elim)) λ_ _ (h:False)=>h.elim)) λ_ _ (h:False)=>h.elim)
  cases b with
  | true=>exact aF (bI h₃ (λ_ s₄ h₄=>aP ⟨rfl,h₄⟩) λ_ _ (h:False)=>h.elim)
  | false=>exact aP ⟨rfl,h₃⟩
noncomputable def GQ (c:Cx) (ρ:Nm) (outs:List (Unit×SS)) (R:Result→Shared→Prop) (s:Shared):Prop:=∀ y σ' ρ' s',(y,σ')∈outs→Ext ρ ρ'→c.SR ρ' σ' s'→aT s s'→R (.ok .next) s'
inductive JG (c:Cx) (cls:List (Nat×dn)) (lo:Lo) (ce:CE) (ρ₀:Nm) (g:Comprehension) (inner:RM Unit) (m kd len:Nat) (I:Addr) (R:Result→Shared→Prop) (k:Nat) (s:Shared):Prop
 | mk (i:Nat) (σ:SS) (outs:List (Unit×SS)) (ρ:Nm) (e:ff cls lo ce g.target g.ifs inner m kd len k i σ=some outs) (x:Ext ρ₀ ρ) (S:c.SR ρ σ s) (J:kN c ρ σ s m kd len I i) (hR:GQ c ρ outs R s)
theorem FU (ok:bR D n lo) (co:c.Of D) (rm:Rm c n) (G:Gd K mg mb c.hG) (hc:cq K cls) {elt:Expr} {gens:List Comprehension} {scope:Scope} {pos:Pos} {depth:Nat} {g:Comprehension} {acc:Nat} {aa:Addr} {inner:RM Unit}
 (hg:gens[depth]?=some g) (ha:g.is_async=0) (eo:aG c ρ₀ ce env) (hacc:ρ₀ acc=some aa)
 (hin:∀ (c':Cx) (ρ:Nm),c'.Of D→Rm c' n→c'.hG=c.hG→c'.ν=c.ν→aG c' ρ ce env→Ext ρ₀ ρ→c'.A=c.A→c'.prog=c.prog→c'.w=c.w→aJ c' ρ inner (JR elt gens scope pos depth (.ref aa) env) (λ_ _ _=>True))
 {m kd len:Nat} {I:Addr} {R:Result→Shared→Prop} {f i:Nat} {σ:SS} {outs:List (Unit×SS)} {ρ:Nm} {s:Shared} (e:ff cls lo ce g.target g.ifs inner m kd len f i σ=some outs) (x:Ext ρ₀ ρ) (S:c.SR ρ σ s) (J:kN c ρ σ s m kd len I i)
 (hR:GQ c ρ outs R s):codeAny c.M c.A (.compLoop (.ListComp elt gens scope pos) depth (.ref I) (.ref aa) env) R s:=by
 refine UM hg ha (JG c cls lo ce ρ₀ g inner m kd len I R) ?_ f (.mk i σ outs ρ e x S J hR)
 generalize JR elt gens scope pos depth (.ref aa) env=t at hin ⊢
 clear hR J S x e s ρ outs σ i f
 rintro k s ⟨i,σ,outs,ρ,e,x,S,J,hR⟩
 cases k with
 | zero=>exact nS e
 | succ f =>
  ·refine aS e λr q e=>?_
   refine iO rm.hh S J q (λhr s' S' sm=>?_) (λy hr s1 v S1 r1 J1 sm1=>?_)
   ·subst hr
    rw [← aD e] at hR
    exact hR () σ ρ s' (.head _) (.refl _) S' sm
   ·subst hr
    obtain ⟨a,hn,hit,hne⟩:=J1.it
    obtain ⟨o,T,ho,qi,hT⟩:=hit.obj
    refine fG ho qi hT.1 ?_
    obtain ⟨l,hl,hg'⟩:=RM.aO (show RM.az (sX cls lo ce g.target g.ifs inner y) (λ_=>ff cls lo ce g.target g.ifs inner m kd len f (i+1)) σ=some outs from e)
    have turn:∀ o,a0 (c.dX I o) ρ (sX cls lo ce g.target g.ifs inner y) (Ly c env g.target g.ifs t v) (λ_ _ _=>True):=λo =>
     ((dc (c:=c.dX I o) ok co.dX rm.dX G hc ((eo.mono x).at rfl) r1 g.target).w).bind λρ₁ _ _ x1 _=>((JQ (c:=c.dX I o) ok co.dX rm.dX g.ifs (((eo.mono x).mono x1).at rfl)).w).bind (W':=λb Q E s₃=>Zf c t Q E b s₃) λρ₂ b v x2 r2=>by
      subst r2
      cases v with
      | true=>exact (hin (c.dX I o) ρ₂ co.dX rm.dX rfl rfl ((((eo.mono x).mono x1).mono x2).at rfl) ((x.trans x1).trans x2) rfl rfl rfl).w
      | false=>exact a0.ret (v:=()) λ_ _=>trivial
    refine Aj (c:=c) (ρ₀:=ρ) (R:=λ_ _ _=>True) turn hl (.refl _) S1.gd S1 J1 (λy σ'' ρ'' s'' u hm x'' S'' J'' r'' sm''=>?_)
    obtain ⟨o2,ho2,hs2⟩:=hg' _ hm
    exact ⟨f,Nat.lt_succ_self _,.mk (i+1) σ'' o2 ρ'' ho2 (x.trans x'') S'' J'' λy σ3 ρ3 s3 hy x3 S3 sm3=>hR y σ3 ρ3 s3 (hs2 _ hy) (x''.trans x3) S3 (sm1.trans (sm''.trans sm3))⟩
end
section
variable {D:Ds} {n:Nat} {lo:Lo} {c:Cx} {ρ₀:Nm} {env:Env} {ce:CE} {K:Frag} {mg mb:Str→Option Value} {cls:List (Nat×dn)}
theorem qH {prog:Program} {w:World} {A:Around} {R:Result→Shared→Prop} {s:Shared} {elt:Expr} {gens:List Comprehension} {scope:Scope} {pos:Pos} {depth:Nat} {g:Comprehension} {it acc:Value}
 (hg:gens[depth]?=some g) (ha:g.is_async=0) (h0:codeAny (model prog w) A (.compLoop (.ListComp elt gens scope pos) depth it acc env) R s)
 (h:wpAny (model prog w) A (pyIter it) (λit' s'=>codeAny (model prog w) A (.compLoop (.ListComp elt gens scope pos) depth it' acc env) R s') (notedBy (model prog w) A env λx s'=>R (.error x) s') s) :
 codeAny (model prog w) A (.compStart (.ListComp elt gens scope pos) depth it acc env) R s:=by
 refine codeAny_of_tree ?_
 show wpAny _ _ ((compStart (.ListComp elt gens scope pos) depth it acc env).onRaise (λx=>do noteFrame x env; standAt theWindowsPlace)) _ _ s
 refine wpAny_notedAt ?_
 unfold compStart
 have e1:(clausesOf (.ListComp elt gens scope pos))[depth]?=some g:=hg
 rw [e1]
 have e2:((some g).elim false λx:Comprehension=>x.is_async != 0)=false:=by simp [ha]
 rw [e2,if_neg (by decide)]
 show wpAny _ _ (ask >>= _) _ _ s
 refine aF (wpAny_askSetting (wpAny_ite ?_))
 split
 ·first
   | exact aF (aP (aP (And.intro rfl h0)))
   | exact aP (And.intro rfl h0)
 ·first
   | exact aF (wpAny_rule (aF (wpAny_standAt (aF (bI h (λit' s' h'=>aP (And.intro rfl h')) λ_ _ x=>x)))))
   | (refine aF (wpAny_rule ?_); show wpAny _ _ (standAt g.iter.pos >>= _) _ _ s; exact aF (wpAny_standAt (aF (bI h (λit' s' h'=>aP (And.intro rfl h')) λ_ _ x=>x))))
theorem qj (ok:bR D n lo) (co:c.Of D) (rm:Rm c n) (G:Gd K mg mb c.hG) (hc:cq K cls) {elt:Expr} {gens:List Comprehension} {scope:Scope} {pos:Pos} {depth:Nat} {g:Comprehension} {acc:Nat} {aa:Addr} {inner:RM Unit}
 (hg:gens[depth]?=some g) (ha:g.is_async=0) (eo:aG c ρ₀ ce env) (hacc:ρ₀ acc=some aa)
 (hin:∀ (c':Cx) (ρ:Nm),c'.Of D→Rm c' n→c'.hG=c.hG→c'.ν=c.ν→aG c' ρ ce env→Ext ρ₀ ρ→c'.A=c.A→c'.prog=c.prog→c'.w=c.w→aJ c' ρ inner (i4 (.ListComp elt gens scope pos) gens depth (.ref aa) env (do let _ ← call (.builtin "list.append") [.ref aa,← eval elt env])) (λ_ _ _=>True))
 {m kd len:Nat} {I:Addr} {R:Result→Shared→Prop} {f i:Nat} {σ:SS} {outs:List (Unit×SS)} {ρ:Nm} {s:Shared} (e:ff cls lo ce g.target g.ifs inner m kd len f i σ=some outs) (x:Ext ρ₀ ρ) (S:c.SR ρ σ s) (J:kN c ρ σ s m kd len I i)
 (hR:∀ y σ' ρ' s',(y,σ')∈outs→Ext ρ ρ'→c.SR ρ' σ' s'→aT s s'→R (.ok .next) s'):codeAny c.M c.A (.compStart (.ListComp elt gens scope pos) depth (.ref I) (.ref aa) env) R s:=by
 have main:=FU ok co rm G hc hg ha eo hacc hin e x S J hR
 obtain ⟨a,hn,hit,hne⟩:=J.it
 exact qH hg ha main (CN (c:=c) hit main)
theorem FV (ok:bR D n lo) {hG:Heap} (G:Gd K mg mb hG) (hc:cq K cls) {elt:Expr} {gens:List Comprehension} {scope:Scope} {pos:Pos} {acc:Nat} {aa:Addr} (gs:List Comprehension):∀ (depth:Nat) (c:Cx) (ρ₀:Nm),gens.drop (depth+1)=gs→c.Of D→Rm c n→c.hG=hG →
 aG c ρ₀ ce env→ρ₀ acc=some aa→aJ c ρ₀ (nQ cls lo ce elt acc gs) (i4 (.ListComp elt gens scope pos) gens depth (.ref aa) env (do let _ ← call (.builtin "list.append") [.ref aa,← eval elt env])) (λ_ _ _=>True):=by
 induction gs with
 | nil =>
  intro depth c ρ₀ hd co rm hh eo hacc
  have e:gens[depth+1]?=none:=(List.getElem?_drop (i:=depth+1) (j:=0)).symm.trans (congrArg (λl=>l[0]?) hd)
  unfold i4
  rw [e]
  show aJ c ρ₀ _ (eval elt env >>= λv=>call (.builtin "list.append") [.ref aa,v] >>= λ_=>pure ()) _
  refine (ok.E c ρ₀ ce env elt co rm eo).bind λρ₁ x v x1 r1=>?_
  have h:=nP (c:=c) (x1 _ _ hacc) r1
  intro σ outs e ρ s x S Q E hQ
  exact aF (h σ outs e ρ s x S _ E λy σ' ρ' s' u hm x' S' r sm=>aP (hQ y σ' ρ' s' () hm x' S' trivial sm))
 | cons g gs ih =>
  intro depth c ρ₀ hd co rm hh eo hacc
  have e:gens[depth+1]?=some g:=(List.getElem?_drop (i:=depth+1) (j:=0)).symm.trans (congrArg (λl=>l[0]?) hd)
  have hd':gens.drop (depth+1+1)=gs:=by
   have:=congrArg List.tail hd
   rw [List.tail_drop] at this
   exact this
  unfold i4
  rw [e]
  refine aJ.yD (λz=>?_)
  ·rw [Bool.or_eq_false_iff] at z
   have ha:g.is_async=0:=by
    have:=z.2
    simpa using this
   intro σ outs e' ρ s x S Q E hQ
   obtain ⟨l,hl,hg⟩:=RM.aO e'
   refine aF (ok.E c ρ₀ ce env g.iter co rm eo σ l hl ρ s x S _ E λv σ1 ρ1 s1 vv hm x1 S1 r1 sm1=>?_)
   obtain ⟨o,ho,hs⟩:=hg _ hm
   refine aS ho λst q ho=>?_
   ·refine aF (wpAny_standAt ?_)
    have hz:(g.is_async != 0)=false:=by simp [ha]
    simp only [hz,Bool.false_eq_true,if_false]
    refine aF (wpAny_of_eq (nO z.1) ?_)
    refine aF (cL (c9 (hh▸G) S1 r1 q λI s2 S2 J2 sm2=>?_))
    refine aF (wpAny_runOwn (h:=none) ?_)
    refine qj (c:=c) (g:=g) ok co rm (hh▸G) hc e ha (eo.mono (x.trans x1)) ((x.trans x1) _ _ hacc) (λc' ρ' co' rm' h1 h2 eo' x' hA hp hw=>?_) ho (.refl _) S2 J2 λy σ3 ρ3 s3 hy x3 S3 sm3=>?_
    ·exact ih (depth+1) c' ρ' hd' co' rm' (h1.trans hh) eo' (x' _ _ ((x.trans x1) _ _ hacc))
    ·exact aP (hQ y σ3 ρ3 s3 () (hs _ hy) (x1.trans x3) S3 trivial (sm1.trans (sm2.trans sm3)))
end
section
variable {P:Params} {ν:Nat→Int} {hG:Heap} {fz:Addr→Obj→Prop} {L:Addr} {ρ ρ':Nm} {σ σ':SS} {s s':Shared}
theorem SR.enter (S:SR P ν hG fz L ρ σ s) {h₁:Heap} {C:Addr} {m:Str→Option Value} {t:Nat} {l:List (Nat×SV)} {oL:Obj} (hn:h₁.Ns C m) (keep:∀ b o,s.heap.get? b=some o→h₁.get? b=some o) (hC:s.heap.get? C=none)
 (hl:∀ x sv,lk l x=some sv→∃ v,m (dec x)=some v∧VR ν ρ sv v) (hL:s.heap.get? L=some oL):SR P ν hG (dX fz L (iE oL)) C ρ { σ with loc:=l } { s with heap:=h₁,toks:=t }:=by
 have hdd:∃ es ep,oL.data=.dict es ep:=by obtain ⟨_,hm,_⟩:=S.loc; exact Ns.dict hm hL
 have ne:∀ b o,s.heap.get? b=some o→b≠C:=λb o e q=>by rw [q,hC] at e; cases e
 refine ⟨λb o e=>?_,yO S.fc λo' e=>absurd e (S.Lf o'),λb o e=>keep _ _ (S.gk b o e),λb o e=>.inl (S.gd b o e),⟨m,hn,hl⟩,λo e=>?_,λn so e=>?_,S.inj,S.dom⟩
 ·rcases e with e | ⟨rfl,rfl⟩
  ·exact (S.fzk b o e).mono (keep _)
  ·exact .Tj (keep _ _ hL) hdd
 ·rcases e with e | ⟨e,_⟩
  ·obtain ⟨o2,z⟩:=(S.fzk _ _ e).at
   exact ne _ _ z rfl
  ·exact ne _ _ hL e.symm
 ·obtain ⟨a,o,h1,h2,h3,h4,h5⟩:=S.hp n so e
  refine ⟨a,o,h1,keep _ _ h2,h3,ne _ _ h2,λhs o' q=>?_⟩
  rcases q with q | ⟨q,_⟩
  ·exact h5 hs _ q
  ·exact h4 q
theorem SR.noG (S:SR P ν hG fz L ρ σ s):hG.get? L=none:=by
 cases q:hG.get? L with
 | none=>rfl
 | some o=>exact absurd (S.gd _ _ q) (S.Lf o)
theorem SR.FW (S:SR P ν hG fz L ρ σ s) {oL:Obj} (hL:s.heap.get? L=some oL):(∃ o,dX fz L (iE oL) L o∧d7 o)∧hG.get? L=none:=by
 obtain ⟨_,hm,_⟩:=S.loc
 obtain ⟨es,ep,hd⟩:=Ns.dict hm hL
 exact ⟨⟨iE oL,.inr ⟨rfl,rfl⟩,rfl,es,ep,hd⟩,S.noG⟩
theorem SR.leave {C:Addr} {oL:Obj} (S':SR P ν hG (dX fz L (iE oL)) C ρ' σ' s') (S:SR P ν hG fz L ρ σ s) (x:Ext ρ ρ') (hL:s.heap.get? L=some oL):SR P ν hG fz L ρ' { σ' with loc:=σ.loc } s':=by
 obtain ⟨oL',hL',hLd,_⟩:=S'.fzk L (iE oL) (.inr ⟨rfl,rfl⟩)
 refine ⟨λb o e=>S'.fzk b o (.inl e),S.fc,S'.gk,S.gd,?_,S.Lf,λn so e=>?_,S'.inj,S'.dom⟩
 ·obtain ⟨m,hm,hv⟩:=S.loc
  exact ⟨m,Ns.i3 hm hL hL' hLd,λy sv e=>let ⟨v,h1,h2⟩:=hv y sv e; ⟨v,h1,h2.mono x⟩⟩
 ·obtain ⟨a,o,h1,h2,h3,h4,h5⟩:=S'.hp n so e
  refine ⟨a,o,h1,h2,h3,λq=>?_,λhs o' q=>h5 hs o' (.inl q)⟩
  cases hs:ag so with
  | false=>exact h5 hs (iE oL) (.inr ⟨q,rfl⟩)
  | true =>
   subst q
   rw [hL'] at h2
   cases h2
   obtain ⟨m,⟨o',es,ep,k1,k2,_⟩,_⟩:=S.loc
   rw [hL] at k1
   cases k1
   cases so with
   | tup xs=>obtain ⟨vs,n,e,_⟩:=h3; have z:=hLd.trans k2; rw [e] at z; cases z
   | _=>cases hs
theorem SR.left {C:Addr} {oL:Obj} (S':SR P ν hG (dX fz L (iE oL)) C ρ' σ' s'):C≠L∧(∀ n so,σ'.hp.get n=some so→ρ' n≠some C)∧∀ o,¬ fz C o:=by
 refine ⟨λq=>S'.Lf (iE oL) (.inr ⟨q,rfl⟩),λn so e q=>?_,λo q=>S'.Lf o (.inl q)⟩
 obtain ⟨a,o,h1,h2,h3,h4,h5⟩:=S'.hp n so e
 rw [h1] at q
 cases q
 exact h4 rfl
end
def namesOf (ce:CE) (l:List (Str×NameKind)):List (Nat×NameKind):=List.rec (motive:=λ_=>List (Nat×NameKind)) [] (λp _ ih=>(enc p.1,if p.2 == .free&&lk ce.names (enc p.1) == some .cell then .cell else p.2)::ih) l
def cellsOf (ce:CE) (l:List (Str×NameKind)):Option (List (Nat×Nat)):=List.rec (motive:=λ_=>Option (List (Nat×Nat))) (some []) (λp _ ih=>cond (p.2 == .free) (ob (lk ce.cells (enc p.1)) λk=>ob ih λl=>some ((enc p.1,k)::l)) ih) l
def Ak (scope:Scope):Bool:=scope.kind == .function&&scope.names.all λp=>fo p.1&&p.2 != .cell&&(p.2 != .local || scope.names.lookup p.1 == some .local)
def sY (ce:CE) (scope:Scope):Option CE:=cond (Ak scope) (ob (cellsOf ce scope.names) λl=>some ⟨namesOf ce scope.names,l⟩) none
def Eh (cells:List (Str×Addr)) (l:List (Str×NameKind)):List (Str×Addr)→List (Str×Addr):=List.rec (motive:=λ_=>List (Str×Addr)→List (Str×Addr)) (λacc=>acc)
 (λp _ ih acc=>cond (p.2 == .free) (iX (cells.lookup p.1) (λa=>ih ((p.1,a)::acc)) (ih acc)) (ih acc)) l
theorem Al {cells:List (Str×Addr)} {q:Str×NameKind} {r:List (Str×NameKind)} {acc:List (Str×Addr)} {p:List (Str×Addr)→Prop} (h1:∀ a,q.2=.free→cells.lookup q.1=some a→p (Eh cells r ((q.1,a)::acc))) (h2:(q.2=.free→cells.lookup q.1=none)→p (Eh cells r acc)):p (Eh cells (q::r) acc):=by
 show p (cond (q.2 == .free) (iX (cells.lookup q.1) (λa=>Eh cells r ((q.1,a)::acc)) (Eh cells r acc)) (Eh cells r acc))
 cases z:q.2 == .free with
 | false=>exact h2 λe=>by rw [e] at z; exact nomatch z
 | true =>
  have z:=beq_iff_eq.mp z
  cases w:cells.lookup q.1 with
  | none=>exact h2 λ_=>w
  | some a=>exact h1 a z w
section
variable {c:Cx} {ρ₀:Nm} {env:Env} {ce:CE}
theorem sZ {f:Str×NameKind→NameKind} {g:Str×NameKind→NameKind} {x:Nat} {l:List (Str×NameKind)} (h:∀ p∈l,fo p.1=true) (hf:∀ p∈l,f p=g p) :
 (l.map λp=>(p.1,f p)).lookup (dec x)=lk (l.map λp=>(enc p.1,g p)) x:=by
 induction l with
 | nil=>rfl
 | cons p r ih =>
  have hp:=h p (.head _)
  rw [List.map_cons,List.map_cons,List.lookup_cons,aQ]
  by_cases e:enc p.1=x
  ·rw [if_pos e,show dec x=p.1 by rw [← e,dec_enc hp],beq_self_eq_true,hf p (.head _)]
  ·rw [if_neg e,show (dec x == p.1)=false from beq_eq_false_iff_ne.mpr λq=>e (by rw [← q,jF])]
   exact ih (λq hq=>h q (.tail _ hq)) λq hq=>hf q (.tail _ hq)
theorem yT (l:List (Str×NameKind)):namesOf ce l=l.map λp=>(enc p.1,if p.2 == .free&&lk ce.names (enc p.1) == some .cell then .cell else p.2):=by
 induction l with
 | nil=>rfl
 | cons p r ih=>exact congrArg (_::·) ih
theorem JS {cells:List (Str×Addr)} {l:List (Str×NameKind)} {p:Str×Addr}:∀ {acc:List (Str×Addr)},p∈Eh cells l acc→p∈acc∨cells.lookup p.1=some p.2:=by
 induction l with
 | nil=>exact λh=>.inl h
 | cons q r ih =>
  intro acc
  exact Al (p:=λl=>p∈l→p∈acc∨cells.lookup p.1=some p.2) (λa _ e h=>(ih h).elim (λh=>fY h (λw=>.inr (by rw [w]; exact e)) .inl) .inr) λ_ h=>ih h
theorem FY {cells:List (Str×Addr)} {l:List (Str×NameKind)} {p:Str×Addr}:∀ {acc:List (Str×Addr)},p∈acc→p∈Eh cells l acc:=by
 induction l with
 | nil=>exact λh=>h
 | cons q r ih=>exact λh=>Al (p:=λl=>p∈l) (λa _ _=>ih (.tail _ h)) λ_=>ih h
theorem JT {cells:List (Str×Addr)} {n:Str} {a:Addr} (e:cells.lookup n=some a) {l:List (Str×NameKind)}:∀ {acc:List (Str×Addr)},(n,NameKind.free)∈l→(n,a)∈Eh cells l acc:=by
 induction l with
 | nil=>exact λh=>nomatch h
 | cons q r ih =>
  refine λh=>Al (p:=λl=>(n,a)∈l) (λb _ w=>fY h (λz=>?_) ih) λw=>fY h (λz=>?_) ih
  ·subst z
   exact FY (aD (e.symm.trans w)▸.head _)
  ·subst z
   exact nS ((w rfl).symm.trans e)
theorem ij {l:List (Str×Addr)} {n:Str} {a:Addr} (h:(n,a)∈l):∃ b,l.lookup n=some b∧(n,b)∈l:=by
 induction l with
 | nil=>cases h
 | cons p r ih =>
  obtain ⟨m,b⟩:=p
  rw [List.lookup_cons]
  cases q:n == m with
  | true => have : n = m := beq_iff_eq.mp q
            subst this
            exact ⟨b,rfl,.head _⟩
  | false =>
   have hne:n≠m:=by intro e; subst e; simp at q
   rcases aM h with h | h
   ·exact absurd (congrArg Prod.fst h) hne
   ·obtain ⟨b',h1,h2⟩:=ih h
    exact ⟨b',h1,.tail _ h2⟩
theorem uX {l:List (Str×NameKind)} {x k:Nat}:∀ {cs:List (Nat×Nat)},cellsOf ce l=some cs→lk cs x=some k→∃ n,(n,NameKind.free)∈l∧enc n=x∧lk ce.cells x=some k:=by
 induction l with
 | nil=>exact λe h=>by rw [← aD e] at h; exact nS h
 | cons p r ih =>
  intro cs e h
  replace e:cond (p.2 == .free) (ob (lk ce.cells (enc p.1)) λk=>ob (cellsOf ce r) λl=>some ((enc p.1,k)::l)) (cellsOf ce r)=some cs:=e
  cases q:p.2 == .free with
  | false =>
   rw [q] at e
   exact (ih e h).elim λn w=>⟨n,.tail _ w.1,w.2⟩
  | true =>
   rw [q] at e
   refine aS e λk' e1 e=>aS e λl e2 e=>?_
   rw [← aD e,aQ] at h
   by_cases z:enc p.1=x
   ·rw [if_pos z] at h
    exact ⟨p.1,(beq_iff_eq.mp q)▸.head _,z,z▸e1.trans h⟩
   ·rw [if_neg z] at h
    exact (ih e2 h).elim λn w=>⟨n,.tail _ w.1,w.2⟩
theorem sb {l:List (Str×NameKind)} {n:Str}:∀ {cs:List (Nat×Nat)},cellsOf ce l=some cs→(n,NameKind.free)∈l→∃ k,lk ce.cells (enc n)=some k:=by
 induction l with
 | nil=>exact λ_ h=>nomatch h
 | cons p r ih =>
  intro cs e h
  replace e:cond (p.2 == .free) (ob (lk ce.cells (enc p.1)) λk=>ob (cellsOf ce r) λl=>some ((enc p.1,k)::l)) (cellsOf ce r)=some cs:=e
  cases q:p.2 == .free with
  | false =>
   rw [q] at e
   exact fY h (λw=>by rw [← w] at q; exact nomatch q) (ih e)
  | true =>
   rw [q] at e
   exact aS e λk' e1 e=>aS e λl e2 e=>fY h (λw=>⟨k',by rw [← w] at e1; exact e1⟩) (ih e2)
theorem sd {f:Str×NameKind→List (Str×Addr)→Sem (ForInStep (List (Str×Addr)))} (hf:∀ p acc,f p acc=if (p.2 == .free)=true then (cellOf env p.1 >>= λa=>pure (.yield ((p.1,a)::acc))) else pure (.yield acc)) (l:List (Str×NameKind)) :
 ∀ acc:List (Str×Addr),(∀ n,(n,NameKind.free)∈l→∃ a,env.cells.lookup n=some a)→forIn l acc f=pure (Eh env.cells l acc):=by
 induction l with
 | nil=>exact λ_ _=>rfl
 | cons p r ih =>
  intro acc h
  replace ih:=λacc=>ih acc λn hn=>h n (.tail _ hn)
  rw [List.forIn_cons,hf]
  refine Al (p:=λl=>_=pure l) (λa q e=>?_) λw=>?_
  ·rw [if_pos (by rw [q]; rfl)]
   unfold cellOf
   rw [e,pure_bind,pure_bind]
   exact ih _
  ·have q:¬ (p.2 == NameKind.free)=true:=λq=>by
    have q:=beq_iff_eq.mp q
    obtain ⟨a,ha⟩:=h p.1 (q▸.head _)
    exact nS ((w q).symm.trans ha)
   rw [if_neg q,pure_bind]
   exact ih _
theorem yU {scope:Scope} (h:∀ n,(n,NameKind.free)∈scope.names→∃ a,env.cells.lookup n=some a):closureFor scope env=pure (Eh env.cells scope.names []):=by
 unfold closureFor
 have:=sd (env:=env) (f:=λp acc=>if (p.2 == .free)=true then (cellOf env p.1 >>= λa=>pure (.yield ((p.1,a)::acc))) else pure (.yield acc)) (λ_ _=>rfl) scope.names [] h
 simp only [bind_pure]
 exact this
structure FZ (scope:Scope) (env:Env) (cl:List (Str×Addr)):Prop where
 clos:closureFor scope env=pure cl
 cell:∀ x∈scope.names,x.2≠.cell
 kind:scope.kind=.function
 names:∀ x∈scope.names,x.2=.local→scope.names.lookup x.1=some .local
theorem CO {scope:Scope} {ce':CE} (e:sY ce scope=some ce') (eo:aG c ρ₀ ce env):∃ cl,FZ scope env cl∧∀ (c':Cx) (ρ:Nm),Ext ρ₀ ρ→aG c' ρ ce' (compEnvC scope cl c'.L env):=by
 refine aw e λz e=>aS e λl hl e=>?_
 rw [← aD e]
 clear e
 unfold Ak at z
 rw [Bool.and_eq_true] at z
 have zk:scope.kind=.function:=beq_iff_eq.mp z.1
 have za:=List.all_eq_true.mp z.2
 have zp:∀ p∈scope.names,fo p.1=true∧p.2≠.cell∧(p.2=.local→scope.names.lookup p.1=some .local):=λp hp=>by
  have:=za p hp
  simp only [Bool.and_eq_true,Bool.or_eq_true,bne_iff_ne,beq_iff_eq,ne_eq] at this
  exact ⟨this.1.1,this.1.2,λq=>this.2.resolve_left λh=>h q⟩
 have hfree:∀ n,(n,NameKind.free)∈scope.names→∃ a,env.cells.lookup n=some a:=λn hn=>by
  obtain ⟨k,hk⟩:=sb hl hn
  obtain ⟨a,h1,_⟩:=eo.cells _ _ hk
  rw [dec_enc (zp _ hn).1] at h1
  exact ⟨a,h1⟩
 refine ⟨Eh env.cells scope.names [],⟨yU hfree,λx hx=>(zp x hx).2.1,zk,λx hx=>(zp x hx).2.2⟩,λc' ρ x=>⟨zk,λy=>?_,rfl,eo.g,eo.b,λy k e=>?_⟩⟩
 ·show (scope.names.map λ(n,k)=>if (k == .free&&env.scope.kind == .function&&env.kindOf n == some .cell) then (n,NameKind.cell) else (n,k)).lookup (dec y)=lk (namesOf ce scope.names) y
  rw [yT]
  rw [← sZ (f:=λp=>if (p.2 == .free&&env.scope.kind == .function&&env.kindOf p.1 == some .cell)=true then NameKind.cell else p.2) (g:=λp=>if (p.2 == .free&&lk ce.names (enc p.1) == some .cell)=true then NameKind.cell else p.2) (λp hp=>(zp p hp).1) λp hp=>?_]
  ·congr 1
   refine List.map_congr_left λp hp=>?_
   obtain ⟨n,k⟩:=p
   dsimp only
   split<;>rfl
  ·have:env.kindOf p.1=lk ce.names (enc p.1):=by rw [← eo.names,dec_enc (zp p hp).1]
   rw [this,eo.kind]
   simp
 ·obtain ⟨n,h1,h2,h3⟩:=uX hl e
  obtain ⟨a,h4,h5⟩:=eo.cells _ _ h3
  have hn:dec y=n:=by rw [← h2,dec_enc (zp _ h1).1]
  rw [hn] at h4
  obtain ⟨b,h6,h7⟩:=ij (JT (acc:=[]) h4 h1)
  rcases JS h7 with h8 | h8
  ·cases h8
  ·rw [h4] at h8
   cases h8
   exact ⟨_,by rw [hn]; exact h6,x _ _ h5⟩
end
def jN (a:SV) (loc:List (Nat×SV)) (o:Option (List (Unit×SS))):Option (List (SV×SS)):=ob o λl=>some (l.map λp=>(a,{ p.2 with loc:=loc }))
def eQ (cls:List (Nat×dn)) (lo:Lo) (ce:CE) (elt:Expr) (gens:List Comprehension) (scope:Scope):RM SV:=List.rec (motive:=λ_=>RM SV) RM.bad
 (λg gs _=>cond (isSet g.iter || !(decide (g.is_async=0))) RM.bad (iX (sY ce scope) (λce'=>RM.az (lo.E ce g.iter) λx=>λσ=>ob (dS σ.hp x) λq =>
  cond (Nat.blt σ.nx 1024) (jN (.ref σ.nx) σ.loc (ff cls lo ce' g.target g.ifs (nQ cls lo ce' elt σ.nx gs) q.1 q.2.1 q.2.2 64 0 { loc:=[],hp:=σ.hp.put σ.nx (.list []),nx:=σ.nx+1 })) none) RM.bad)) gens
section
variable {D:Ds} {n:Nat} {lo:Lo} {c:Cx} {ρ₀:Nm} {env:Env} {ce:CE} {K:Frag} {mg mb:Str→Option Value} {cls:List (Nat×dn)}
structure Left (c:Cx) (ρ:Nm) (σ:SS) (s:Shared) (C:Addr):Prop where
 S:c.SR ρ σ s
 ns:∃ m,s.heap.Ns C m
 neL:C≠c.L
 un:∀ n so,σ.hp.get n=some so→ρ n≠some C
 nf:∀ o,¬ c.fz C o
theorem yV (ok:bR D n lo) (co:c.Of D) (rm:Rm c n) (G:Gd K mg mb c.hG) (hc:cq K cls) {elt:Expr} {g:Comprehension} {gs:List Comprehension} {scope:Scope} {pos:Pos} {cl:List (Str×Addr)} {ce':CE} (ha:g.is_async=0)
 (C0:FZ scope env cl) (eo':∀ (c':Cx) (ρ:Nm),Ext ρ₀ ρ→aG c' ρ ce' (compEnvC scope cl c'.L env)) {m kd len:Nat} {σ:SS} {outs:List (SV×SS)} {ρ:Nm} {s:Shared} {x:SV} {v:Value} (hx:VR c.ν ρ x v)
 (q:dS σ.hp x=some (m,kd,len)) (hnx:σ.nx<1024)
 (e:jN (.ref σ.nx) σ.loc (ff cls lo ce' g.target g.ifs (nQ cls lo ce' elt σ.nx gs) m kd len 64 0 { loc:=[],hp:=σ.hp.put σ.nx (.list []),nx:=σ.nx+1 })=some outs) (xe:Ext ρ₀ ρ) (S:c.SR ρ σ s)
 {PP:Value→Addr→Result→Shared→Prop} {E:Value→Shared→Prop}
 (hP:∀ y σ' ρ' s' v C,(y,σ')∈outs→Ext ρ ρ'→Left c ρ' σ' s' C→VR c.ν ρ' y v→aT s s'→PP v C (.ok .next) s') :
 wpAny c.M c.A (pyIter v) (λit s₂=>wpAny c.M c.A (newList []) (λacc s₃=>wpAny c.M c.A (newFunctionEnv scope env.globals cl [] env.qual none .none (some env)) (λcenv s₄ =>
  codeAny c.M c.A (.compStart (.ListComp elt (g::gs) scope pos) 0 it acc { cenv with scope:=relabel scope env }) (PP acc cenv.locals) s₄) E s₃) E s₂) E s:=by
 refine c9 G S hx q λI s2 S2 J2 sm2=>?_
 refine wpAny_newList ?_ (by simp)
 generalize hs3:({ s2 with heap:=s2.heap.push { cls:=.type "list",data:=.seq ([]:List Value).toArray } }:Shared)=s3
 have X3:=S2.ext s2.heap.objs.size
 have hfr:=S2.fresh
 have no2:s2.heap.get? s2.heap.objs.size=none:=by
  cases z:s2.heap.get? s2.heap.objs.size with
  | none=>rfl
  | some o'=>exact absurd (bE z) (Nat.lt_irrefl _)
 have S3:c.SR (bA ρ σ.nx s2.heap.objs.size) { σ with hp:=σ.hp.put σ.nx (.list []),nx:=σ.nx+1 } s3:=by
  subst hs3
  exact SR.alloc (t:=s2.toks) (a:=s2.heap.objs.size) (o:=bF [] 0) S2 hnx no2 (Heap.get?_push_size _ rfl) (λb o e=>cK _ e) ⟨[],0,rfl,trivial⟩
 have keep23:∀ b o,s2.heap.get? b=some o→s3.heap.get? b=some o:=by subst hs3; exact λb o e=>cK _ e
 have sm3:aT s2 s3:=by subst hs3; exact .mk _ _ s2.toks
 have hacc:(bA ρ σ.nx s2.heap.objs.size) σ.nx=some s2.heap.objs.size:=by simp [bA]
 obtain ⟨oL,hL⟩:∃ o,s3.heap.get? c.L=some o:=by obtain ⟨_,⟨o,_,_,h,_⟩,_⟩:=S3.loc; exact ⟨o,h⟩
 clear hs3
 refine wpAny_newFunctionEnv C0.cell (by intro y hy; simp at hy) (λh4 hn4 hs4=>?_) C0.kind
 have no3:s3.heap.get? s3.heap.objs.size=none:=by
  cases z:s3.heap.get? s3.heap.objs.size with
  | none=>rfl
  | some o'=>exact absurd (bE z) (Nat.lt_irrefl _)
 have keep34:∀ b o,s3.heap.get? b=some o→h4.get? b=some o:=λb o e=>hs4.extBut b o (Nat.ne_of_lt (bE e)) (cK _ e)
 have S4:=SR.enter (l:=[]) (t:=s3.toks+([]:List (Str×Value)).length) S3 hn4 keep34 no3 (λy sv e=>nomatch e) hL
 let c4:Cx:={ c with fz:=dX c.fz c.L (iE oL),L:=s3.heap.objs.size }
 obtain ⟨a,hn,hit,hne⟩:=J2.it
 obtain ⟨oI,T,hoI,_⟩:=hit.obj
 have J4:kN c4 (bA ρ σ.nx s2.heap.objs.size) { loc:=[],hp:=σ.hp.put σ.nx (.list []),nx:=σ.nx+1 } { s3 with heap:=h4,toks:=s3.toks+([]:List (Str×Value)).length } m kd len I 0:=by
  refine ⟨⟨a,X3 _ _ hn,hit.congr ((keep34 _ _ (keep23 _ _ hoI)).trans hoI.symm),hne⟩,Nat.ne_of_lt (bE (keep23 _ _ hoI)),λk so e z=>?_,λo z=>?_,J2.le⟩
  ·dsimp only at e
   rw [Hp.d6 hnx] at e
   by_cases w:k=σ.nx
   ·subst w
    rw [hacc] at z
    have:s2.heap.objs.size=I:=aD z
    rw [← this,no2] at hoI
    cases hoI
   ·simp only [w,if_false] at e
    have:ρ k=some I:=by unfold bA at z; simpa [w] using z
    exact J2.un k so e this
  ·rcases z with z | ⟨z,_⟩
   ·exact J2.nf o z
   ·exact J2.neL z
 refine aS e λl hl e=>?_
 ·have hP:=aD e▸hP
  refine qj (c:=c4) (ρ₀:=bA ρ σ.nx s2.heap.objs.size) (g:=g) (acc:=σ.nx) (env:=compEnvC scope cl s3.heap.objs.size env) (ce:=ce') ok ⟨co.prog,co.w,co.ν,co.hG⟩ (n:=n) ⟨rm.stk.under (c':=c4) rfl rfl (λ_ _ e=>.inl e) (S3.FW hL),rm.hh,rm.depth,rm.units⟩ G hc rfl ha (eo' c4 _ (xe.trans X3)) hacc
   (λc' ρ' co' rm' h1 h2 eo'' x' hA hp hw=>FV ok (hG:=c.hG) G hc gs 0 c' ρ' rfl co' rm' h1 eo'' (x' _ _ hacc)) hl (.refl _) S4 J4 λy σ5 ρ5 s5 hy x5 S5 sm5=>?_
  have S6:=SR.leave S5 S3 x5 hL
  obtain ⟨l1,l2,l3⟩:=SR.left S5
  have sm:aT s s5:=sm2.trans (sm3.trans ((aT.mk s3 h4 _).trans sm5))
  obtain ⟨m5,hm5,_⟩:=S5.loc
  exact hP (.ref σ.nx) { σ5 with loc:=σ.loc } ρ5 s5 (.ref s2.heap.objs.size) s3.heap.objs.size (List.mem_map.mpr ⟨(y,σ5),hy,rfl⟩) (X3.trans x5) ⟨S6,⟨m5,hm5⟩,l1,l2,l3⟩ ⟨_,x5 _ _ hacc,rfl⟩ sm
theorem jO (ok:bR D n lo) (co:c.Of D) (rm:Rm c n) (G:Gd K mg mb c.hG) (hc:cq K cls) (eo:aG c ρ₀ ce env) {elt:Expr} {gens:List Comprehension} {scope:Scope} {pos fpos:Pos} {use:Option (Value→Sem Unit)}
 {σ:SS} {outs:List (SV×SS)} {ρ:Nm} {s:Shared} {Q E:Value→Shared→Prop} (e:eQ cls lo ce elt gens scope σ=some outs) (x:Ext ρ₀ ρ) (S:c.SR ρ σ s)
 (hP:∀ y σ' ρ' s' v C,(y,σ')∈outs→Ext ρ ρ'→Left c ρ' σ' s' C→VR c.ν ρ' y v→aT s s'→compPost c.M c.A E use Q v C (.ok .next) s') :
 wpAny c.M c.A (comprehension (.ListComp elt gens scope pos) scope env fpos (newList []) (firstAsync gens) (firstIter gens env) use) Q E s:=by
 cases gens with
 | nil=>exact nS e
 | cons g gs =>
  obtain ⟨gt,gi,gf,ga⟩:=g
  replace e:cond (isSet gi || !(decide (ga=0))) RM.bad (iX (sY ce scope) (λce'=>RM.az (lo.E ce gi) λx=>λσ=>ob (dS σ.hp x) λq =>
   cond (Nat.blt σ.nx 1024) (jN (.ref σ.nx) σ.loc (ff cls lo ce' gt gf (nQ cls lo ce' elt σ.nx gs) q.1 q.2.1 q.2.2 64 0 { loc:=[],hp:=σ.hp.put σ.nx (.list []),nx:=σ.nx+1 })) none) RM.bad) σ=some outs:=e
  cases z:(isSet gi || !(decide (ga=0))) with
  | true=>rw [z] at e; exact nS e
  | false =>
   rw [z] at e
   rw [Bool.or_eq_false_iff] at z
   obtain ⟨z,ha⟩:=z
   have ha:ga=0:=by simpa using ha
   subst ha
   cases hce:sY ce scope with
   | none=>rw [hce] at e; exact nS e
   | some ce' =>
    rw [hce] at e
    replace e:RM.az (lo.E ce gi) (λx=>λσ=>ob (dS σ.hp x) λq =>
     cond (Nat.blt σ.nx 1024) (jN (.ref σ.nx) σ.loc (ff cls lo ce' gt gf (nQ cls lo ce' elt σ.nx gs) q.1 q.2.1 q.2.2 64 0 { loc:=[],hp:=σ.hp.put σ.nx (.list []),nx:=σ.nx+1 })) none) σ=some outs:=e
    obtain ⟨l,hl,hg⟩:=RM.aO e
    obtain ⟨cl,C0,eo'⟩:=CO hce eo
    refine wpAny_comprehension_free rfl (λx=>nO z) C0.clos C0.kind C0.names ?_
    refine ok.E c ρ₀ ce env gi co rm eo σ l hl ρ s x S _ E λv σ1 ρ1 s1 vv hm x1 S1 r1 sm1=>?_
    obtain ⟨o,ho,hs⟩:=hg _ hm
    exact aS ho λst q1 ho => aw ho λw ho => yV (g := ⟨gt, gi, gf, 0⟩) (gs := gs) (elt := elt) (PP := λv C r s' => compPost c.M c.A E use Q v C r s') ok co rm G hc rfl C0 eo' r1 q1 (aC.mp w) ho (x.trans x1) S1 λy σ' ρ' s' u C hy x' Lf r sm =>
          hP y σ' ρ' s' u C (hs _ hy) (x1.trans x') Lf r (sm1.trans sm)
theorem se (ok:bR D n lo) (co:c.Of D) (rm:Rm c n) (G:Gd K mg mb c.hG) (hc:cq K cls) (eo:aG c ρ₀ ce env) (elt:Expr) (gens:List Comprehension) (scope:Scope) {pos:Pos} :
 aJ c ρ₀ (eQ cls lo ce elt gens scope) (eval (.ListComp elt gens scope pos) env) (VR c.ν):=by
 intro σ outs e ρ s x S Q E hQ
 rw [eval_ListComp]
 refine jO ok co rm G hc eo e x S λy σ' ρ' s' u C hy x' Lf r sm=>?_
 obtain ⟨mm,hmm⟩:=Lf.ns
 refine ⟨mm,hmm,λh' hs'=>?_⟩
 exact hQ y σ' ρ' _ u hy x' (SR.other (t:=s'.toks) Lf.S Lf.neL Lf.un Lf.nf hs'.extBut) r (sm.trans (.mk _ _ _))
theorem mS (ok:bR D n lo) (co:c.Of D) (rm:Rm c n) (G:Gd K mg mb c.hG) (hc:cq K cls) (eo:aG c ρ₀ ce env) (elt:Expr) (gens:List Comprehension) (scope:Scope) {pos p:Pos} {x:Str} (hx:fo x=true) :
 aJ c ρ₀ (RM.az (eQ cls lo ce elt gens scope) λv=>d8 ce (enc x) v) (evalThenUse (.ListComp elt gens scope pos) env (assign (.Name x p) env)) (λ_ _ _=>True):=by
 intro σ outs e ρ s y S Q E hQ
 obtain ⟨l,hl,hg⟩:=RM.aO e
 show wpAny c.M c.A (comprehension (.ListComp elt gens scope pos) scope env (firstIterPos gens pos) (newList []) (firstAsync gens) (firstIter gens env) (some (assign (.Name x p) env)) >>= λ_=>pure ()) Q E s
 refine aF ?_
 refine jO ok co rm G hc eo hl y S λv σ' ρ' s' u C hy x' Lf r sm=>?_
 obtain ⟨o,ho,hs⟩:=hg _ hy
 obtain ⟨mm,hmm⟩:=Lf.ns
 obtain ⟨oC,es,ep,hC,hrest⟩:=id hmm
 have hdd:∃ es ep,oC.data=.dict es ep:=⟨_,_,hrest.1⟩
 have S1:=SR.FO Lf.S hC hdd Lf.neL Lf.un Lf.nf
 have st:=eI (c:=c.dX C (iE oC)) (ρ₀:=ρ') (x:=enc x) ((eo.mono (y.trans x')).at rfl) r
 rw [dec_enc hx] at st
 refine wpAny_assign_Name ?_
 refine st σ' o ho ρ' s' (.refl _) S1 _ E λz σ2 ρ2 s2 w hz x2 S2 _ sm2=>?_
 obtain ⟨S3,⟨oC3,hC3,hCd⟩,hL3,hu3⟩:=SR.Qs S2 Lf.S.gd hdd
 refine ⟨mm,Ns.i3 hmm hC hC3 hCd,λh' hs'=>aP ?_⟩
 exact hQ z σ2 ρ2 _ () (hs _ hz) (x'.trans x2) (SR.other (t:=s2.toks) S3 hL3 hu3 Lf.nf hs'.extBut) trivial ((sm.trans sm2).trans (.mk _ _ _))
end
def Fc (l:List SV):Option (SV×SV):=List.rec (motive:=λ_=>Option (SV×SV)) none (λa r _=>List.rec (motive:=λ_=>Option (SV×SV)) none (λb q _=>List.rec (motive:=λ_=>Option (SV×SV)) (some (a,b)) (λ_ _ _=>none) q) r) l
theorem Qt {l:List SV} {p:SV×SV} (h:Fc l=some p):l=[p.1,p.2]:=by
 cases l with
 | nil=>exact nS h
 | cons a r=>cases r with
  | nil=>exact nS h
  | cons b q=>cases q with
   | nil=>rw [← aD h]
   | cons _ _=>exact nS h
def Fd (cls:List (Nat×dn)) (lo:Lo) (ce:CE) (t value:Expr):RM FL:=iX (Y8 value) (λq=>iX (TZ t) (λx=>cond (fo x.1) (RM.az (RM.az (eQ cls lo ce q.1 q.2.1 q.2.2.1) λv=>d8 ce (enc x.1) v) λ_=>RM.ret .next) RM.bad) RM.bad) RM.bad
def Qu (cls:List (Nat×dn)) (lo:Lo) (ce:CE) (t value:Expr):RM FL:=iX (uR ce t value) (λo=>iX o
 (λq=>RM.az (lo.E ce value) λv=>RM.az (RM.look λσ=>ob (tupS σ v) Fc) λp=>RM.az (d8 ce (enc q.2.1) p.2) λ_=>RM.az (d8 ce (enc q.1) p.1) λ_=>RM.ret .next)
 (RM.az (lo.E ce value) λv=>RM.az (dR cls lo ce v t) λ_=>RM.ret .next)) RM.bad
def Lz (cls:List (Nat×dn)) (lo:Lo) (ce:CE) (t value:Expr):RM FL:=cond (cH t) RM.bad (iX (yM ce value t) (λb=>Bool.rec (motive:=λ_=>RM FL) (Qu cls lo ce t value) (Fd cls lo ce t value) b) RM.bad)
section
variable {D:Ds} {n:Nat} {lo:Lo} {c:Cx} {ρ₀:Nm} {env:Env} {ce:CE} {K:Frag} {mg mb:Str→Option Value} {cls:List (Nat×dn)}
theorem yW {x:Str} (eo:aG c ρ₀ ce env) (q:fo x=true):(env.kindOf x == some .local)=lA ce x:=by
 unfold lA
 rw [show env.kindOf x=lk ce.names (enc x) by rw [← eo.names,dec_enc q],q]
 cases lk ce.names (enc x) with
 | none=>rfl
 | some k=>cases k<;>rfl
theorem CP {t v:Expr} {b:Bool} {line:Nat} (eo:aG c ρ₀ ce env):yM ce v t=some b→swapsWith v (some t) line env=pure b:=by
 unfold yM
 cases hv:Y8 v with
 | some a =>
  rw [FJ hv]
  obtain ⟨elt,gens,sc,vp⟩:=a
  cases ht:TZ t with
  | some x =>
   rw [sU ht]
   obtain ⟨x,p⟩:=x
   intro h
   refine aw (b:=fo x) h λq h=>?_
   show (pure (env.blockKind == .function&&env.kindOf x == some .local&&p.line == vp.line&&!(sc.names.any λ(n,k)=>n == x&&(k == .local || k == .cell))):Sem Bool)=pure b
   rw [← aD h,jK eo.kind,yW eo q,show (ScopeKind.function == ScopeKind.function)=true from rfl,Bool.true_and]
  | none =>
   intro h
   rw [← aD h]
   cases t<;>first | rfl | exact nS ht.symm
 | none =>
  intro h
  cases z:Lx v with
  | true=>rw [z] at h; exact nS h
  | false =>
   rw [z] at h
   rw [← aD h]
   cases v<;>first | rfl | exact nS hv.symm | exact absurd z.symm Bool.false_ne_true
inductive ZC (t v:Expr) (env:Env) (q:Str×Str×Expr×Expr):Prop
 | mk (pa pb p p2:Pos) (k k2:Nat) (et:t=.Tuple [.Name q.1 pa,.Name q.2.1 pb] k p) (ev:v=.Tuple [q.2.2.1,q.2.2.2] k2 p2) (oa:fo q.1=true) (ob:fo q.2.1=true) (hs:swappedStores [t] v env=pure (some [q.1,q.2.1])):ZC t v env q
set_option backward.match.sparseCases true in
theorem CQ {ce:CE} {a b:Str} {v1 v2:Expr} {pa pb p p2:Pos} {k k2:Nat} (hk:env.scope.kind=.function) (s1:cH v1=false) (s2:cH v2=false) (q2:(foldedForSure 8 v1&&foldedForSure 8 v2)=false) (q3:(constantsAlone 8 v1&&constantsAlone 8 v2)=false)
 (ka:env.kindOf a=some .local) (kb:env.kindOf b=some .local) (h3:pa.line=pb.line) (hne:(b == a)=false):swappedStores [.Tuple [.Name a pa,.Name b pb] k p] (.Tuple [v1,v2] k2 p2) env=pure (some [a,b]):=by
 unfold swappedStores
 dsimp only
 rw [jK hk]
 generalize hF:List.filterMap (λx:Expr=>match x with
  | .Name id pos=>if (env.kindOf id == some .local&&pos.line == (Option.map (λx:Expr=>x.pos.line) [Expr.Name a pa,Expr.Name b pb].head?).getD 0)=true then some id else none
  | _=>none) [Expr.Name a pa,Expr.Name b pb]=F
 have hf:F=[a,b]:=by
  rw [← hF,show (Option.map (λx:Expr=>x.pos.line) [Expr.Name a pa,Expr.Name b pb].head?).getD 0=pa.line from rfl]
  have e1:(env.kindOf a == some .local&&pa.line == pa.line)=true:=by rw [ka]; exact beq_self_eq_true pa.line
  have e2:(env.kindOf b == some .local&&pb.line == pa.line)=true:=by rw [kb,h3]; exact beq_self_eq_true pb.line
  refine (List.filterMap_cons_some (b:=a) ?_).trans (congrArg (a::·) ((List.filterMap_cons_some (b:=b) ?_).trans rfl))
  ·exact if_pos e1
  ·exact if_pos e2
 clear hF
 subst hf
 refine Zc (by simp) ?_ ?_ ?_ ?_
 ·show ¬((cH v1 || (cH v2 || false))=true)
  rw [s1,s2]
  exact Bool.false_ne_true
 ·show ¬(([a,b].length != 2 || [a,b].eraseDups.length != [a,b].length)=true)
  rw [show [a,b].eraseDups.length=2 by simp [List.eraseDups_cons,hne]]
  exact Bool.false_ne_true
 ·show ¬((foldedForSure 8 v1&&(foldedForSure 8 v2&&true))=true)
  rw [Bool.and_true,q2]
  exact Bool.false_ne_true
 ·show ¬((constantsAlone 8 v1&&(constantsAlone 8 v2&&true))=true)
  rw [Bool.and_true,q3]
  exact Bool.false_ne_true
theorem yX {t v:Expr} {q:Str×Str×Expr×Expr} (eo:aG c ρ₀ ce env):uR ce t v=some (some q)→ZC t v env q:=by
 refine eM (p:=λo=>o=some (some q)→ZC t v env q) (λvs hv=>eM (p:=λo=>o=some (some q)→ZC t v env q) (λts ht h=>?_) λh=>iN h λ_ h=>nomatch (aD h)) λh=>nomatch (aD h)
 obtain ⟨k,p,et⟩:=mi ht
 obtain ⟨k',p',ev⟩:=mi hv
 obtain ⟨pa,pb,e1,e2,q1,q2,q3,q4⟩:=JN h
 rw [e1] at et
 rw [e2] at ev
 refine dW q4 λq4 h4=>dW q4 λq4 h3=>dW q4 λh1 h2=>?_
 obtain ⟨oa,ka⟩:=uS eo h1
 obtain ⟨ob,kb⟩:=uS eo h2
 obtain ⟨s1,s2⟩:=Bool.or_eq_false_iff.mp q1
 exact ⟨pa,pb,p,p',k,k',et,ev,oa,ob,by rw [et,ev]; exact CQ (ce:=ce) eo.kind s1 s2 q2 q3 ka kb (ar h3) (beq_eq_false_iff_ne.mpr λe=>by rw [e,Nat.beq_refl] at h4; exact nomatch h4)⟩
theorem Ff (ok:bR D n lo) (co:c.Of D) (rm:Rm c n) (G:Gd K mg mb c.hG) (hc:cq K cls) (eo:aG c ρ₀ ce env) (t value:Expr) {p:Pos} (hw:swapsWith value (some t) p.line env=pure true):aJ c ρ₀ (Fd cls lo ce t value) (exec (.Assign [t] value p) env) (iG c.ν):=by
 refine eM (p:=λm=>aJ c ρ₀ m (exec (.Assign [t] value p) env) (iG c.ν)) (λq hv=>eM (p:=λm=>aJ c ρ₀ m (exec (.Assign [t] value p) env) (iG c.ν)) (λx ht=>aJ.guard λhx=>?_) aJ.bad) aJ.bad
 rw [sU ht] at hw ⊢
 rw [FJ hv] at hw ⊢
 rw [exec_Assign_Name_used (hs:=hw)]
 refine aJ.standAt ((mS ok co rm G hc eo q.1 q.2.1 q.2.2.1 hx).bind λρ₁ _ _ x1 _=>?_)
 exact aJ.known (a:=FL.next) (v:=Flow.next) (R:=iG c.ν) (λ_ _=>(rfl:Flow.next=Flow.next)) λs Q E q=>aP q
theorem Fg (ok:bR D n lo) (co:c.Of D) (rm:Rm c n) (eo:aG c ρ₀ ce env) {t value:Expr} {p:Pos} (hsole:swapsWithSole [t] value p.line env=pure false) {q:Str×Str×Expr×Expr} (h2:uR ce t value=some (some q)) :
 aJ c ρ₀ (RM.az (lo.E ce value) λv=>RM.az (RM.look λσ=>ob (tupS σ v) Fc) λp=>RM.az (d8 ce (enc q.2.1) p.2) λ_=>RM.az (d8 ce (enc q.1) p.1) λ_=>RM.ret .next) (exec (.Assign [t] value p) env) (iG c.ν):=by
 obtain ⟨a,b,v1,v2⟩:=q
 obtain ⟨pa,pb,tp,p2,k,k2,rfl,rfl,oa,ob',hs⟩:=yX eo h2
 intro σ outs e ρ s x S Q E hQ
 obtain ⟨l,hl,hg⟩:=RM.aO e
 refine Assign_Tuple_swapped (names:=[a,b]) ?_ hsole hs
 refine ok.E c ρ₀ ce env _ co rm eo σ l hl ρ s x S _ E λv σ1 ρ1 s1 vv hm x1 S1 r1 sm1=>?_
 obtain ⟨o,ho,uA⟩:=hg _ hm
 obtain ⟨l2,hl2,hg2⟩:=RM.aO ho
 refine RM.i2 hl2 λpr hp el=>aS hp λxs hx1 hx2=>FH (λm em g1=>?_) hx1
 subst el em
 replace hx2:=Qt hx2
 subst hx2
 obtain ⟨ad,hn,rfl⟩:=r1
 obtain ⟨vs,kk,h3,h4⟩:=S1.tup g1 hn
 obtain ⟨w1,t1,rfl,r1,h4⟩:=h4.eN
 obtain ⟨w2,t2,rfl,r2,h4⟩:=h4.eN
 obtain rfl:=h4.nF
 obtain ⟨o2,ho2,hs2⟩:=hg2 _ (.head _)
 refine unpackItems_tuple (items:=#[w1,w2]) rm.hh ⟨_,h3,rfl,kk,rfl⟩ λh' he=>?_
 have S2:=S1.grow (t:=s1.toks) (h':=h') λb o eb=>he b o (Nat.ne_of_lt (bE eb)) eb
 have st1:=eI (x:=enc b) (eo.mono (x.trans x1)) r2
 rw [dec_enc ob'] at st1
 obtain ⟨l3,hl3,hg3⟩:=RM.aO ho2
 show wpAny c.M c.A (holding [w1] (bindName env b w2) >>= λ_=>holding [] (bindName env a w1) >>= λ_=>pure ()) _ E _
 refine aF (cL (wpAny_bindName (st1 _ l3 hl3 ρ1 _ (.refl _) S2 _ E λz σ3 ρ3 s3 u hz x3 S3 _ sm3=>?_)))
 obtain ⟨o3,ho3,hs3⟩:=hg3 _ hz
 obtain ⟨l4,hl4,hg4⟩:=RM.aO ho3
 have st2:=eI (x:=enc a) (eo.mono ((x.trans x1).trans x3)) (r1.mono x3)
 rw [dec_enc oa] at st2
 refine aF (cL (wpAny_bindName (st2 _ l4 hl4 ρ3 _ (.refl _) S3 _ E λz σ4 ρ4 s4 u hz x4 S4 _ sm4=>?_)))
 obtain ⟨o4,ho4,hs4⟩:=hg4 _ hz
 exact aP (hQ .next σ4 ρ4 s4 .next (uA _ (hs2 _ (hs3 _ (hs4 _ (aD ho4▸.head _))))) ((x1.trans x3).trans x4) S4 rfl (sm1.trans ((aT.mk s1 h' s1.toks).trans (sm3.trans sm4))))
theorem JU (ok:bR D n lo) (co:c.Of D) (rm:Rm c n) (G:Gd K mg mb c.hG) (hc:cq K cls) (eo:aG c ρ₀ ce env) (t value:Expr) {p:Pos}:aJ c ρ₀ (Lz cls lo ce t value) (exec (.Assign [t] value p) env) (iG c.ν):=by
 refine aJ.yD λht=>eM (p:=λm=>aJ c ρ₀ m (exec (.Assign [t] value p) env) (iG c.ν)) (λb h1=>?_) aJ.bad
 have hw:=CP (line:=p.line) eo h1
 cases b with
 | true=>exact Ff ok co rm G hc eo t value hw
 | false =>
  have hsole:swapsWithSole [t] value p.line env=pure false:=hw
  refine eM (p:=λm=>aJ c ρ₀ m (exec (.Assign [t] value p) env) (iG c.ν)) (λo h2=>?_) aJ.bad
  cases o with
  | some q=>exact Fg ok co rm eo hsole h2
  | none =>
   have hs:=yN (env:=env) h2
   refine a0.snd (W:=λ(Q:Flow→Shared→Prop) E s=>wpAny c.M c.A (eval value env) (λv s₁=>wpAny c.M c.A (assign t env v) (λ_ s₂=>Q .next s₂) E s₁) E s) (((ok.E c ρ₀ ce env value co rm eo).w).bind (W':=λv (Q:Flow→Shared→Prop) E s₁=>wpAny c.M c.A (assign t env v) (λ_ s₂=>Q .next s₂) E s₁) λρ₁ x v x1 r1 =>
    ((dc ok co rm G hc (eo.mono x1) r1 t).w).bind (W':=λ_ (Q:Flow→Shared→Prop) E s₂=>Q .next s₂) λρ₂ _ _ x2 _=>a0.ret (a:=FL.next) (v:=Flow.next) (R:=iG c.ν) λ_ _=>(rfl:Flow.next=Flow.next)) λQ E s h=>?_
   refine wpAny_Assign_stores (bI h (λv s₁ h₁=>?_) λ_ _ x=>x) hsole hs
   have e:(assignEach [t] env).map (·.2)=[assign t env]:=by rw [dx ht]; rfl
   rw [e]
   exact h₁
end
section
variable {P:Params} {ν:Nat→Int} {hG:Heap} {fz:Addr→Obj→Prop} {L:Addr} {ρ:Nm} {σ:SS} {s:Shared}
theorem SR.adopt (S:SR P ν hG fz L ρ σ s) {so:SO} {a:Addr} {o:Obj} (hx:σ.nx<1024) (ha:s.heap.get? a=some o) (hL:a≠L) (hu:∀ n so,σ.hp.get n=some so→ρ n≠some a) (hf:∀ o,¬ fz a o)
 (hr:OR P ν ρ so o):SR P ν hG fz L (bA ρ σ.nx a) { σ with hp:=σ.hp.put σ.nx so,nx:=σ.nx+1 } s:=by
 have E:=S.ext a
 have no:∀ {n so₂},σ.hp.get n=some so₂→ρ n≠some a:=λe=>hu _ _ e
 refine ⟨S.fzk,S.fc,S.gk,S.gd,?_,S.Lf,λn so₂ e=>?_,λn₁ n₂ s₁ s₂ b e₁ e₂ r₁ r₂ k₁ k₂=>?_,λn b e=>?_⟩
 ·obtain ⟨m,hm,hv⟩:=S.loc
  exact ⟨m,hm,λx sv e=>let ⟨v,h1,h2⟩:=hv x sv e; ⟨v,h1,h2.mono E⟩⟩
 ·refine Hp.nD hx e (λq q2=>?_) λq e=>?_
  ·rw [q,q2]
   exact ⟨a,o,cp,ha,hr.mono E,hL,λ_=>hf⟩
  ·obtain ⟨b,ob,g1,g2,g3,g4,g5⟩:=S.hp n so₂ e
   exact ⟨b,ob,E _ _ g1,g2,g3.mono E,g4,g5⟩
 ·refine Hp.nD hx e₁ (λq₁ _=>Hp.nD hx e₂ (λq₂ _=>q₁.trans q₂.symm) λw e₂=>?_) λw₁ e₁=>Hp.nD hx e₂ (λq₂ _=>?_) λw₂ e₂=>?_
  ·rw [q₁,cp] at r₁
   rw [fB w] at r₂
   exact absurd (r₂.trans r₁.symm) (no e₂)
  ·rw [q₂,cp] at r₂
   rw [fB w₁] at r₁
   exact absurd (r₁.trans r₂.symm) (no e₁)
  ·rw [fB w₁] at r₁
   rw [fB w₂] at r₂
   exact S.inj _ _ _ _ _ e₁ e₂ r₁ r₂ k₁ k₂
 ·by_cases q:n=σ.nx
  ·exact q▸Nat.lt_succ_self _
  ·rw [fB q] at e
   exact Nat.lt_succ_of_lt (S.dom n b e)
end
structure bf where
 params:List Nat
 scope:Scope
 body:List Stmt
 nm:List (Nat×NameKind)
 cl:List Nat
def jP (ce:List (Nat×NameKind)) (l:List Nat):Bool:=List.rec (motive:=λ_=>Bool) true (λx _ ih=>iX (lk ce x) (λk=>NameKind.rec (motive:=λ_=>Bool) ih ih false false false k) false) l
def a9 (l:List (Str×NameKind)):List (Nat×NameKind):=List.rec (motive:=λ_=>List (Nat×NameKind)) [] (λp _ ih=>(enc p.1,p.2)::ih) l
def mj (k:NameKind):Bool:=NameKind.rec (motive:=λ_=>Bool) false true false false false k
def nR (l:List (Str×NameKind)):List Nat:=List.rec (motive:=λ_=>List Nat) [] (λp _ ih=>cond (mj p.2) (enc p.1::ih) ih) l
def jQ (scope:Scope):Bool:=scope.kind == .function&&!scope.isCoroutine&&!scope.isGenerator&&scope.names.all λp=>fo p.1
def nU (l:List (Nat×NameKind)):Bool:=List.rec (motive:=λ_=>Bool) true (λp r ih=>cond (lk r p.1).isSome false ih) l
structure aq (K:Frag) (f:Addr) (d:bf):Prop where
 obj:∃ o fd,K.lookup f=some o∧o.data=.func fd∧fd.body=.stmts d.body∧fd.scope=d.scope∧fd.globals=mainGlobals∧fd.builtins=builtinsNs∧fd.closure=[]∧codeIn K fd.code fd.qualname=true ∧
  (∀ vs:List Value,vs.length=d.params.length→bindArgs fd ⟨vs,[]⟩=pure ((d.params.map dec).zip vs))
 kp:keepIn K (.ref f)=true
 nm:a9 d.scope.names=d.nm
 cl:nR d.scope.names=d.cl
 chk:(jQ d.scope&&jP (a9 d.scope.names) d.params&&nU (a9 d.scope.names))=true
noncomputable def L7 (K:Frag) (fns:List (Nat×bf)):Prop:=∀ f d,lk fns f=some d→aq K f d
def nV (o:Option NameKind):Bool:=iX o (λk=>NameKind.rec (motive:=λ_=>Bool) true false false false false k) false
theorem Am {o:Option NameKind} (h:nV o=true):o=some .local:=by
 cases o with
 | none=>exact nomatch h
 | some k=>cases k<;>first | rfl | exact absurd h Bool.false_ne_true
def a7 (names:List (Nat×NameKind)) (ps:List Nat):List SV→List (Nat×SV)→List (Nat×SV):=List.rec (motive:=λ_=>List SV→List (Nat×SV)→List (Nat×SV)) (λ_ acc=>acc)
 (λx _ ih vs acc=>List.rec (motive:=λ_=>List (Nat×SV)) acc (λv vs _=>cond (nV (lk names x)) (ih vs ((x,v)::acc)) (ih vs acc)) vs) ps
def cS (names:List (Nat×NameKind)) (ps:List Nat):List SV→List (Nat×SV)→List (Nat×SV):=List.rec (motive:=λ_=>List SV→List (Nat×SV)→List (Nat×SV)) (λ_ acc=>acc)
 (λx _ ih vs acc=>List.rec (motive:=λ_=>List (Nat×SV)) acc (λv vs _=>cond (nV (lk names x)) (ih vs acc) (ih vs ((x,v)::acc))) vs) ps
def FL.val (f:FL):SV:=FL.rec (motive:=λ_=>SV) .none .none (λv=>v) f
def Qv (loc:List (Nat×SV)) (o:Option (List (FL×SS))):Option (List (SV×SS)):=ob o λl=>some (l.map λp=>(p.1.val,{ p.2 with loc:=loc }))
def cJ (cs:List (Nat×SV)) (l:List Nat):SS→List (Nat×Nat)→Option (SS×List (Nat×Nat)) :=
 List.rec (motive:=λ_=>SS→List (Nat×Nat)→Option (SS×List (Nat×Nat))) (λσ acc=>some (σ,acc))
  (λx _ ih σ acc=>Bool.rec (motive:=λ_=>Option (SS×List (Nat×Nat))) none (ih { σ with hp:=σ.hp.put σ.nx (.cell (lk cs x)),nx:=σ.nx+1 } ((x,σ.nx)::acc)) (Nat.blt σ.nx 1024)) l
def putCells (cs:List (Nat×SV)) (l:List (Str×NameKind)):SS→List (Nat×Nat)→Option (SS×List (Nat×Nat)):=cJ cs (nR l)
def uY (lo:Lo) (d:bf) (xs:List SV):RM SV:=λσ =>
 cond (Nat.beq xs.length d.params.length) (ob (cJ (cS d.nm d.params xs []) d.cl { σ with loc:=a7 d.nm d.params xs [] } []) λq=>Qv σ.loc (bG lo ⟨d.nm,q.2⟩ d.body q.1)) none
section
variable {D:Ds} {n:Nat} {lo:Lo} {c:Cx} {ρ₀:Nm} {K:Frag} {mg mb:Str→Option Value} {fns:List (Nat×bf)}
theorem ik {x:Nat} {l:List (Str×NameKind)} (h:∀ p∈l,fo p.1=true):l.lookup (dec x)=lk (a9 l) x:=by
 induction l with
 | nil=>rfl
 | cons p r ih =>
  have hp:=h p (.head _)
  show List.lookup (dec x) (p::r)=lk ((enc p.1,p.2)::a9 r) x
  rw [List.lookup_cons,aQ]
  by_cases e:enc p.1=x
  ·rw [if_pos e,show dec x=p.1 by rw [← e,dec_enc hp],beq_self_eq_true]
  ·rw [if_neg e,show (dec x == p.1)=false from beq_eq_false_iff_ne.mpr λq=>e (by rw [← q,jF])]
   exact ih λq hq=>h q (.tail _ hq)
noncomputable def UN (ν:Nat→Int) (ρ:Nm) (acc:List (Nat×SV)) (m:Str→Option Value):Prop:=∀ x sv,lk acc x=some sv→∃ v,m (dec x)=some v∧VR ν ρ sv v
theorem yY {ν:Nat→Int} {ρ:Nm} {names:List (Nat×NameKind)} {kindOf:Str→Option NameKind} (hk:∀ x,kindOf (dec x)=lk names x) {ps:List Nat} {xs:List SV} {vs:List Value} {acc:List (Nat×SV)} {m:Str→Option Value} (hv:bX ν ρ xs vs) (hl:ps.length=xs.length) (h:UN ν ρ acc m) :
 UN ν ρ (a7 names ps xs acc) (bindL kindOf ((ps.map dec).zip vs) m):=by
 refine hv.ind (motive:=λxs vs=>∀ (ps:List Nat) (acc:List (Nat×SV)) (m:Str→Option Value),ps.length=xs.length→UN ν ρ acc m→UN ν ρ (a7 names ps xs acc) (bindL kindOf ((ps.map dec).zip vs) m)) (λps acc m hl h=>?_) (λx xs v vs h1 _ ih ps acc m hl h=>?_) ps acc m hl h
 ·cases ps with
  | nil=>exact h
  | cons=>exact nomatch hl
 ·cases ps with
  | nil=>exact nomatch hl
  | cons p ps =>
   show UN ν ρ (cond (nV (lk names p)) (a7 names ps xs ((p,x)::acc)) (a7 names ps xs acc)) (bindL kindOf ((dec p,v)::(ps.map dec).zip vs) m)
   unfold bindL
   cases q:nV (lk names p) with
   | true =>
    rw [hk,if_pos (Am q)]
    refine ih ps _ _ (Nat.succ.inj hl) λy sv e=>?_
    rw [aQ] at e
    by_cases z:p=y
    ·rw [if_pos z] at e
     exact ⟨v,if_pos (congrArg dec z.symm),aD e▸h1⟩
    ·rw [if_neg z] at e
     exact (h y sv e).elim λu w=>⟨u,(if_neg λw=>z (fX w).symm).trans w.1,w.2⟩
   | false =>
    rw [hk,if_neg λw=>by rw [w] at q; exact nomatch q]
    exact ih ps acc m (Nat.succ.inj hl) h
noncomputable def Qw (ν:Nat→Int) (ρ:Nm) (acc:List (Nat×SV)) (cm:Str→Option Value):Prop:=∀ x,match lk acc x with
 | some sv=>∃ v,cm (dec x)=some v∧VR ν ρ sv v
 | none=>cm (dec x)=none
theorem yZ {ν:Nat→Int} {ρ:Nm} {names:List (Nat×NameKind)} {kindOf:Str→Option NameKind} (hk:∀ x,kindOf (dec x)=lk names x) {ps:List Nat} {xs:List SV} {vs:List Value} {acc:List (Nat×SV)} {m:Str→Option Value} (hv:bX ν ρ xs vs) (hl:ps.length=xs.length) (h:Qw ν ρ acc m) :
 Qw ν ρ (cS names ps xs acc) (bindC kindOf ((ps.map dec).zip vs) m):=by
 refine hv.ind (motive:=λxs vs=>∀ (ps:List Nat) (acc:List (Nat×SV)) (m:Str→Option Value),ps.length=xs.length→Qw ν ρ acc m→Qw ν ρ (cS names ps xs acc) (bindC kindOf ((ps.map dec).zip vs) m)) (λps acc m hl h=>?_) (λx xs v vs h1 _ ih ps acc m hl h=>?_) ps acc m hl h
 ·cases ps with
  | nil=>exact h
  | cons=>exact nomatch hl
 ·cases ps with
  | nil=>exact nomatch hl
  | cons p ps =>
   show Qw ν ρ (cond (nV (lk names p)) (cS names ps xs acc) (cS names ps xs ((p,x)::acc))) (bindC kindOf ((dec p,v)::(ps.map dec).zip vs) m)
   unfold bindC
   cases q:nV (lk names p) with
   | true =>
    rw [hk,if_pos (Am q)]
    exact ih ps acc m (Nat.succ.inj hl) h
   | false =>
    rw [hk,if_neg λw=>by rw [w] at q; exact nomatch q]
    refine ih ps _ _ (Nat.succ.inj hl) λy=>?_
    rw [aQ]
    by_cases z:p=y
    ·rw [if_pos z]
     exact ⟨v,if_pos (congrArg dec z.symm),h1⟩
    ·rw [if_neg z,if_neg λw=>z (fX w).symm]
     exact h y
noncomputable def L8 (ρ:Nm):List (Nat×Nat)→List (Str×Addr)→Prop
 | [],[]=>True
 | p::r,q::l=>(fo q.1=true∧p.1=enc q.1∧ρ p.2=some q.2)∧L8 ρ r l
 | _,_=>False
theorem L8.mono {ρ ρ':Nm} (x:Ext ρ ρ') {a:List (Nat×Nat)}:∀ {b:List (Str×Addr)},L8 ρ a b→L8 ρ' a b:=by
 induction a with
 | nil =>
  intro b h
  cases b with
  | nil=>exact trivial
  | cons=>exact h.elim
 | cons p r ih =>
  intro b h
  cases b with
  | nil=>exact h.elim
  | cons q l=>exact ⟨⟨h.1.1,h.1.2.1,x _ _ h.1.2.2⟩,ih h.2⟩
theorem L8.look {ρ:Nm} {x k:Nat} {a:List (Nat×Nat)}:∀ {b:List (Str×Addr)},L8 ρ a b→lk a x=some k→∃ ad,b.lookup (dec x)=some ad∧ρ k=some ad:=by
 induction a with
 | nil=>exact λ_ e=>nS e
 | cons p r ih =>
  intro b h e
  cases b with
  | nil=>exact h.elim
  | cons q l =>
   obtain ⟨⟨h1,h2,h3⟩,h⟩:=h
   rw [aQ] at e
   rw [List.lookup_cons]
   by_cases z:p.1=x
   ·rw [if_pos z] at e
    rw [show dec x=q.1 by rw [← z,h2,dec_enc h1],beq_self_eq_true]
    exact ⟨q.2,rfl,aD e▸h3⟩
   ·rw [if_neg z] at e
    rw [show (dec x == q.1)=false from beq_eq_false_iff_ne.mpr λw=>z (by rw [h2,← w,jF])]
    exact ih h e
theorem gN {p:List (Str×Addr)→Prop} {q:Str×NameKind} {r:List (Str×NameKind)} {k:Nat} {acc:List (Str×Addr)} (h1:q.2=.cell→p (cellsFrom (k+1) r ((q.1,k)::acc))) (h2:q.2≠.cell→p (cellsFrom k r acc)):p (cellsFrom k (q::r) acc):=by
 unfold cellsFrom
 by_cases z:(q.2 == NameKind.cell)=true
 ·rw [if_pos z]; exact h1 (beq_iff_eq.mp z)
 ·rw [if_neg z]; exact h2 λe=>z (by rw [e]; rfl)
theorem qI (l:List (Str×NameKind)) {q:Str×Addr}:∀ {k:Nat} {acc:List (Str×Addr)},q∈acc→q∈cellsFrom k l acc:=by
 induction l with
 | nil=>exact λh=>h
 | cons p r ih=>exact λh=>gN (p:=λl=>q∈l) (λ_=>ih (.tail _ h)) λ_=>ih h
theorem uZ {P:Params} {ν:Nat→Int} {hG:Heap} {fz:Addr→Obj→Prop} {L:Addr} {cs:List (Nat×SV)} {cm:Str→Option Value} {s:Shared} {all:List (Str×Addr)} (hap:all.Pairwise λx y=>x.2≠y.2)
 (hcell:∀ q∈all,s.heap.IsCell q.2 (cm q.1)∧q.2≠L∧∀ o,¬ fz q.2 o) {σ1:SS} {c1:List (Nat×Nat)} (l:List (Str×NameKind)):∀ (k:Nat) (acc:List (Str×Addr)) (accS:List (Nat×Nat)) (σ:SS) (ρ:Nm),
 putCells cs l σ accS=some (σ1,c1)→(∀ p∈l,fo p.1=true)→cellsFrom k l acc=all→SR P ν hG fz L ρ σ s→Qw ν ρ cs cm→L8 ρ accS acc→(∀ m so,σ.hp.get m=some so→∀ a,ρ m=some a→k≤a→False) →
 ∃ ρ1,Ext ρ ρ1∧SR P ν hG fz L ρ1 σ1 s∧L8 ρ1 c1 all∧σ1.loc=σ.loc:=by
 induction l with
 | nil =>
  intro k acc accS σ ρ e _ ha S _ hc _
  unfold cellsFrom at ha
  have e:=aD (show some (σ,accS)=some (σ1,c1) from e)
  rw [← ha,← (Prod.mk.inj e).1,← (Prod.mk.inj e).2]
  exact ⟨ρ,.refl _,S,hc,rfl⟩
 | cons p r ih =>
  obtain ⟨m,kd⟩:=p
  intro k acc accS σ ρ e ho ha S hm hc h2
  replace e:cJ cs (cond (mj kd) (enc m::nR r) (nR r)) σ accS=some (σ1,c1):=e
  have ho':∀ p∈r,fo p.1=true:=λp hp=>ho p (.tail _ hp)
  have om:=ho (m,kd) (.head _)
  unfold cellsFrom at ha
  rw [show (kd == NameKind.cell)=mj kd by cases kd<;>rfl] at ha
  cases q:mj kd with
  | false =>
   rw [q] at e ha
   exact ih k acc accS σ ρ e ho' ha S hm hc h2
  | true =>
   rw [q] at e ha
   replace ha:cellsFrom (k+1) r ((m,k)::acc)=all:=ha
   have z:Nat.blt σ.nx 1024=true:=by
    cases z:Nat.blt σ.nx 1024 with
    | true=>rfl
    | false =>
     replace e:(Bool.rec (motive:=λ_=>Option (SS×List (Nat×Nat))) none (cJ cs (nR r) { σ with hp:=σ.hp.put σ.nx (.cell (lk cs (enc m))),nx:=σ.nx+1 } ((enc m,σ.nx)::accS)) (Nat.blt σ.nx 1024):Option (SS×List (Nat×Nat)))=some (σ1,c1):=e
     rw [z] at e
     exact nS e
   replace e:(Bool.rec (motive:=λ_=>Option (SS×List (Nat×Nat))) none (cJ cs (nR r) { σ with hp:=σ.hp.put σ.nx (.cell (lk cs (enc m))),nx:=σ.nx+1 } ((enc m,σ.nx)::accS)) (Nat.blt σ.nx 1024):Option (SS×List (Nat×Nat)))=some (σ1,c1):=e
   rw [z] at e
   obtain ⟨⟨o,hg,hd⟩,hL,hf⟩:=hcell (m,k) (ha▸qI r (.head _))
   have hx:=aC.mp z
   have hr:OR P ν ρ (.cell (lk cs (enc m))) o:=by
    have hmm:=hm (enc m)
    rw [dec_enc om] at hmm
    cases w:lk cs (enc m) with
    | none=>rw [w] at hmm; exact hd.trans (congrArg Data.cell hmm)
    | some sv=>rw [w] at hmm; exact hmm.elim λv g=>⟨v,hd.trans (congrArg Data.cell g.1),g.2⟩
   have S1:=SR.adopt S hx hg hL (λn so en en2=>h2 n so en k en2 (Nat.le_refl _)) hf hr
   have X:=S.ext k
   have hm1:Qw ν (bA ρ σ.nx k) cs cm:=λx=>by
    have:=hm x
    revert this
    cases lk cs x with
    | none=>exact id
    | some sv=>exact λh=>h.elim λv g=>⟨v,g.1,g.2.mono X⟩
   obtain ⟨ρ1,x1,S2,hc2,hl2⟩:=ih (k+1) ((m,k)::acc) ((enc m,σ.nx)::accS) _ _ e ho' ha S1 hm1 ⟨⟨om,rfl,cp⟩,hc.mono X⟩ λn so en a hn hk=>Hp.nD hx en (λw _=>by
    rw [w,cp] at hn
    rw [← aD hn] at hk
    exact Nat.lt_irrefl _ hk) λw en=>by
    rw [fB w] at hn
    exact h2 n so en a hn (Nat.le_of_succ_le hk)
   exact ⟨ρ1,X.trans x1,S2,hc2,hl2⟩
theorem ua {names:List (Nat×NameKind)} {ps:List Nat}:jP names ps=true→∀ p∈ps,lk names p=some .local∨lk names p=some .cell:=by
 induction ps with
 | nil=>exact λ_ _ h=>nomatch h
 | cons x r ih =>
  intro h p hp
  revert h
  refine eM (p:=λq=>q=true→lk names p=some .local∨lk names p=some .cell) (λk e h=>?_) λh=>nomatch h
  cases k with
  | «local»=>exact fY hp (λw=>.inl (w▸e)) (ih h p)
  | cell=>exact fY hp (λw=>.inr (w▸e)) (ih h p)
  | _=>exact absurd h Bool.false_ne_true
theorem sf {m:Str} (l:List (Str×NameKind)):∀ {k:Nat} {acc:List (Str×Addr)},(l.lookup m=some .cell∨(acc.lookup m).isSome=true)→((cellsFrom k l acc).lookup m).isSome=true:=by
 induction l with
 | nil=>exact λh=>h.elim (λh=>nS h) id
 | cons p r ih =>
  intro k acc h
  rw [List.lookup_cons] at h
  refine gN (p:=λl=>(l.lookup m).isSome=true) (λq=>ih ?_) λq=>ih ?_
  ·rw [List.lookup_cons]
   cases z:m == p.1 with
   | true=>exact .inr rfl
   | false=>rw [z] at h; exact h
  ·cases z:m == p.1 with
   | true=>rw [z] at h; exact h.elim (λh=>absurd (aD h) q) .inr
   | false=>rw [z] at h; exact h
theorem bX.JV {ps:List Nat} {vs:List Value} {x:Str×Value} (h:x∈(ps.map dec).zip vs):∃ p∈ps,x.1=dec p:=by
 have:=(List.of_mem_zip (a:=x.1) (b:=x.2) h).1
 obtain ⟨p,h1,h2⟩:=List.mem_map.mp this
 exact ⟨p,h1,h2.symm⟩
theorem ub {r:List (Str×NameKind)} {m:Str} (hr:∀ p∈r,fo p.1=true) (h:(lk (a9 r) (enc m)).isSome=false):∀ p∈r,p.1≠m:=by
 induction r with
 | nil=>intro p hp; cases hp
 | cons q r ih =>
  intro p hp e
  have h':lk ((enc q.1,q.2)::a9 r) (enc m)=none:=Option.isSome_eq_false_iff.mp h |> Option.isNone_iff_eq_none.mp
  rw [aQ] at h'
  by_cases w:enc q.1=enc m
  ·rw [if_pos w] at h'; cases h'
  ·rw [if_neg w] at h'
   rcases aM hp with rfl | hp
   ·exact w (by rw [e])
   ·exact ih (λp hp=>hr p (.tail _ hp)) (by rw [h']; rfl) p hp e
theorem ya (l:List (Str×NameKind)):∀ (k:Nat) (acc:List (Str×Addr)),(∀ q∈acc,acc.lookup q.1=some q.2)→(∀ p∈l,acc.lookup p.1=none)→(∀ p∈l,fo p.1=true)→nU (a9 l)=true →
 ∀ q∈cellsFrom k l acc,(cellsFrom k l acc).lookup q.1=some q.2:=by
 induction l with
 | nil=>exact λ_ _ h _ _ _=>h
 | cons p r ih =>
  intro k acc h h2 ho hn
  replace hn:cond (lk (a9 r) (enc p.1)).isSome false (nU (a9 r))=true:=hn
  cases z:(lk (a9 r) (enc p.1)).isSome with
  | true=>rw [z] at hn; exact nomatch hn
  | false =>
   rw [z] at hn
   replace ho:∀ p∈r,fo p.1=true:=λp hp=>ho p (.tail _ hp)
   refine gN (p:=λl=>∀ q∈l,l.lookup q.1=some q.2) (λ_=>ih _ _ (λq hq=>?_) (λp' hp=>?_) ho hn) λ_=>ih _ _ h (λp hp=>h2 p (.tail _ hp)) ho hn
   ·rw [List.lookup_cons]
    refine fY hq (λw=>by rw [w,beq_self_eq_true]) λhq=>?_
    rw [show (q.1 == p.1)=false from beq_eq_false_iff_ne.mpr λe=>by
     have:=h2 p (.head _)
     rw [← e,h q hq] at this
     exact nS this.symm]
    exact h q hq
   ·rw [List.lookup_cons,show (p'.1 == p.1)=false from beq_eq_false_iff_ne.mpr (ub ho z p' hp)]
    exact h2 p' (.tail _ hp)
def dy (d:bf) (xs:List SV):Bool:=Nat.beq xs.length d.params.length&&jQ d.scope&&jP (a9 d.scope.names) d.params&&nU (a9 d.scope.names)
set_option backward.match.sparseCases true in
theorem uc {f:Addr} {d:bf} {xs:List SV} {vs:List Value} {ρ:Nm} {σ σ1:SS} {cs:List (Nat×Nat)} {s:Shared} {R:Result→Shared→Prop} {fz':Addr→Obj→Prop} (G:Gd K mg mb c.hG) (hK:∀ b o,c.hG.get? b=some o→s.heap.get? b=some o) (hdp:c.A.depth<recursionLimit)
 (F:aq K f d) (hv:bX c.ν ρ xs vs) (z:dy d xs=true) (hpc:putCells (cS (a9 d.scope.names) d.params xs []) d.scope.names { σ with loc:=a7 (a9 d.scope.names) d.params xs [] } []=some (σ1,cs))
 (hlt:∀ a o,fz' a o→a<s.heap.objs.size) (hht:∀ m so a,σ.hp.get m=some so→ρ m=some a→a<s.heap.objs.size)
 (hS:∀ h' tk m,h'.Ns s.heap.objs.size m→(∀ b o,s.heap.get? b=some o→h'.get? b=some o)→(∀ x sv,lk (a7 (a9 d.scope.names) d.params xs []) x=some sv→∃ v,m (dec x)=some v∧VR c.ν ρ sv v) →
  SR c.w.params c.ν c.hG fz' s.heap.objs.size ρ { σ with loc:=a7 (a9 d.scope.names) d.params xs [] } { s with heap:=h',toks:=tk })
 (hbody:∀ (env:Env) (ρ1:Nm) (s1:Shared),env.frame=some s.heap.objs.size→aG { c with A:=c.A.deeper env,fz:=fz',L:=s.heap.objs.size } ρ1 ⟨a9 d.scope.names,cs⟩ env→Ext ρ ρ1→SR c.w.params c.ν c.hG fz' s.heap.objs.size ρ1 σ1 s1→aT s s1 →
  wpAny c.M (c.A.deeper env) (execs d.body env) (λf s'=>R (.ok (.ret (match f with | .ret v=>v | _=>.none))) s') (λe s'=>wpAny c.M (c.A.deeper env) (leaving env e) (λ_ s''=>R (.error e) s'') (λe' s''=>R (.error e') s'') s') s1):codeAny c.M c.A (.call (.ref f) ⟨vs,[]⟩) R s:=by
 unfold dy at z
 rw [Bool.and_eq_true,Bool.and_eq_true,Bool.and_eq_true] at z
 obtain ⟨⟨⟨z1,z2⟩,z3⟩,z4⟩:=z
 unfold jQ at z2
 simp only [Bool.and_eq_true,Bool.not_eq_true',beq_iff_eq] at z2
 obtain ⟨⟨⟨k1,k2⟩,k3⟩,k4⟩:=z2
 have k4':∀ p∈d.scope.names,fo p.1=true:=λp hp=>List.all_eq_true.mp k4 p hp
 obtain ⟨o,fd,h1,h2,h3,h4,h5,h6,h7,h8,h9⟩:=F.obj
 have hlen:vs.length=d.params.length:=hv.length.trans (ar z1)
 have X:K.In s.heap:=λb o z=>hK _ _ (G.X _ _ z)
 have hlim:s.heap.NoLimit:=G.lim.keeps hK
 have hnames:∀ y,fd.scope.names.lookup (dec y)=lk (a9 d.scope.names) y:=λy=>by rw [h4]; exact ik k4'
 refine codeAny_call_cells hdp (X _ _ h1) h2 hlim (codeRec_of X h8) h3 (h9 vs hlen) h7 (λy hy=>?_) (λs₁ IC=>?_) (by rw [h4]; exact k2) (by rw [h4]; exact k3) (by rw [h4]; exact k1)
 ·obtain ⟨p,hp,hq⟩:=bX.JV hy
  rw [hq,hnames]
  rcases ua z3 p hp with w | w
  ·exact .inl w
  ·refine .inr ⟨w,sf _ (.inl ?_)⟩
   rw [hnames]; exact w
 ·obtain ⟨⟨⟨h',tk,rfl⟩,hns,hkeep,hfresh⟩,hcell,hapart,habove⟩:=IC
  generalize qJ:callEnvC fd s.heap.objs.size f=env' at *
  have eL:env'.locals=s.heap.objs.size:=by rw [← qJ]; rfl
  have eF:env'.frame=some s.heap.objs.size:=by rw [← qJ]; rfl
  have eS:env'.scope=d.scope:=by rw [← qJ]; exact h4
  have eC:env'.cells=cellsFrom (s.heap.objs.size+1) d.scope.names []:=by rw [← qJ,← h4]; rfl
  have eG:env'.globals=mainGlobals:=by rw [← qJ]; exact h5
  have eB:env'.builtins=builtinsNs:=by rw [← qJ]; exact h6
  have kO:∀ y,env'.kindOf (dec y)=lk (a9 d.scope.names) y:=λy=>by unfold Env.kindOf; rw [eS]; exact ik k4'
  rw [eL] at hns
  have hxl:d.params.length=xs.length:=(ar z1).symm
  have S1:=hS h' tk _ hns hkeep (yY kO hv hxl λy sv e=>nS e)
  have above:∀ q∈env'.cells,s.heap.objs.size<q.2:=λq hq=>by
   have:=habove q.1 q.2 hq
   rwa [eL] at this
  obtain ⟨ρ1,x1,S2,hcs,hl1⟩:=uZ (all:=env'.cells) (cm:=bindC env'.kindOf ((d.params.map dec).zip vs) λ_=>none) hapart (λq hq=>by
   obtain ⟨b,g1,g2⟩:=ij (n:=q.1) (a:=q.2) hq
   have:=above q hq
   have hb:b=q.2:=by
    have:=ya d.scope.names (s.heap.objs.size+1) [] (λq hq=>nomatch hq) (λp hp=>rfl) k4' z4 q (by rw [← eC]; exact hq)
    rw [← eC,g1] at this
    exact aD this
   subst hb
   exact ⟨hcell q.1 _ g1,Nat.ne_of_gt this,λo w=>Nat.lt_asymm this (hlt _ _ w)⟩) d.scope.names (s.heap.objs.size+1) [] [] _ ρ hpc k4' eC.symm S1 (yZ kO hv hxl λy=>rfl) trivial (λm so en a ha hk =>
    Nat.lt_irrefl _ (Nat.lt_of_lt_of_le (Nat.lt_trans (hht m so a en ha) (Nat.lt_succ_self _)) hk))
  have eo:aG { c with A:=c.A.deeper env',fz:=fz',L:=s.heap.objs.size } ρ1 ⟨a9 d.scope.names,cs⟩ env' :=
   ⟨by rw [eS]; exact k1,kO,eL,eG,eB,λy k w=>hcs.look w⟩
  exact hbody env' ρ1 _ eF eo x1 S2 (.mk _ _ _)
set_option backward.match.sparseCases true in
theorem ml {f:Addr} {d:bf} {xs:List SV} {vs:List Value} {ρ:Nm} {σ σ1:SS} {cs:List (Nat×Nat)} {s:Shared} {R:Result→Shared→Prop} {fz':Addr→Obj→Prop} (G:Gd K mg mb c.hG) (hK:∀ b o,c.hG.get? b=some o→s.heap.get? b=some o) (hdp:c.A.depth<recursionLimit)
 (F:aq K f d) (hv:bX c.ν ρ xs vs) (z:dy d xs=true) (hpc:putCells (cS (a9 d.scope.names) d.params xs []) d.scope.names { σ with loc:=a7 (a9 d.scope.names) d.params xs [] } []=some (σ1,cs))
 (hlt:∀ a o,fz' a o→a<s.heap.objs.size) (hht:∀ m so a,σ.hp.get m=some so→ρ m=some a→a<s.heap.objs.size)
 (hS:∀ h' tk m,h'.Ns s.heap.objs.size m→(∀ b o,s.heap.get? b=some o→h'.get? b=some o)→(∀ x sv,lk (a7 (a9 d.scope.names) d.params xs []) x=some sv→∃ v,m (dec x)=some v∧VR c.ν ρ sv v) →
  SR c.w.params c.ν c.hG fz' s.heap.objs.size ρ { σ with loc:=a7 (a9 d.scope.names) d.params xs [] } { s with heap:=h',toks:=tk })
 (hbody:∀ (env:Env) (ρ1:Nm) (s1:Shared),env.frame=some s.heap.objs.size→aG { c with A:=c.A.deeper env,fz:=fz',L:=s.heap.objs.size } ρ1 ⟨a9 d.scope.names,cs⟩ env→Ext ρ ρ1→SR c.w.params c.ν c.hG fz' s.heap.objs.size ρ1 σ1 s1→aT s s1→∀ E',
  wpAny c.M (c.A.deeper env) (execs d.body env) (λf s'=>R (.ok (.ret (match f with | .ret v=>v | _=>.none))) s') E' s1):codeAny c.M c.A (.call (.ref f) ⟨vs,[]⟩) R s :=
 uc G hK hdp F hv z hpc hlt hht hS λenv ρ1 s1 eF eo x S sm=>hbody env ρ1 s1 eF eo x S sm _
theorem An (ok:bR D n lo) (co:c.Of D) (stk:dI c) (hh:c.A.handled=none) (hdp:c.A.depth+4 * n+45<recursionLimit) (hun:c.A.units+60 * n+663<cLine) (G:Gd K mg mb c.hG) {f:Addr} {d:bf} (F:aq K f d) {xs:List SV} {vs:List Value} {ρ:Nm} {σ:SS} {s:Shared} {outs:List (SV×SS)}
 (hv:bX c.ν ρ xs vs) (e:uY lo d xs σ=some outs) (S:c.SR ρ σ s) {R:Result→Shared→Prop}
 (hR:∀ x σ' ρ' s' v,(x,σ')∈outs→Ext ρ ρ'→c.SR ρ' σ' s'→VR c.ν ρ' x v→aT s s'→(∀ m,s.heap.Ns c.L m→s'.heap.Ns c.L m)→R (.ok (.ret v)) s'):codeAny c.M c.A (.call (.ref f) ⟨vs,[]⟩) R s:=by
 refine aw e λz0 e=>?_
 rw [← F.nm,← F.cl] at e
 have z:dy d xs=true:=by
  have h:=F.chk
  rw [Bool.and_eq_true,Bool.and_eq_true] at h
  unfold dy
  rw [z0,h.1.1,h.1.2,h.2]; rfl
 refine aS e λq hpc e=>aS e λl hl e=>?_
 obtain ⟨oL,hL⟩:∃ o,s.heap.get? c.L=some o:=by obtain ⟨_,⟨o,_,_,h,_⟩,_⟩:=S.loc; exact ⟨o,h⟩
 have no:s.heap.get? s.heap.objs.size=none:=by
  cases w:s.heap.get? s.heap.objs.size with
  | none=>rfl
  | some o'=>exact absurd (bE w) (Nat.lt_irrefl _)
 refine ml (fz':=dX c.fz c.L (iE oL)) G S.br (Nat.lt_of_le_of_lt (Nat.le_trans (Nat.le_add_right _ _) (Nat.le_add_right _ _)) hdp) F hv z hpc (λa o w=>?_) (λm so a e1 e2=>?_) (λh' tk m hn hk hl=>SR.enter S hn hk no hl hL) (λenv' ρ1 s1 eF eo x1 S2 sm1 E'=>?_)
 ·rcases w with w | ⟨w,_⟩
  ·obtain ⟨o2,z⟩:=(S.fzk _ _ w).at
   exact bE z
  ·exact w▸bE hL
 ·obtain ⟨b,ob,g1,g2,_⟩:=S.hp m so e1
  rw [e2] at g1; cases g1
  exact bE g2
 ·have rm':Rm { c with A:=c.A.deeper env',fz:=dX c.fz c.L (iE oL),L:=s.heap.objs.size } n:=⟨stk.push (env:=env') rfl rfl (λ_ _ e=>.inl e) (S.FW hL) eo.kind eF,hh,by show c.A.depth+1+4 * n+44<_; omega,by show c.A.units+3+60 * n+660<_; omega⟩
  refine dJ (c:={ c with A:=c.A.deeper env',fz:=dX c.fz c.L (iE oL),L:=s.heap.objs.size }) ok ⟨co.prog,co.w,co.ν,co.hG⟩ rm' d.body eo q.1 l hl ρ1 _ (.refl _) S2 _ _ λfl σ2 ρ2 s2 w hm x2 S3 r2 sm2=>?_
  refine hR fl.val { σ2 with loc:=σ.loc } ρ2 s2 _ (aD e▸List.mem_map.mpr ⟨(fl,σ2),hm,rfl⟩) (x1.trans x2) (SR.leave S3 S (x1.trans x2) hL) ?_ (sm1.trans sm2) λm w=>let ⟨o',h1,h2,_⟩:=S3.fzk c.L (iE oL) (.inr ⟨rfl,rfl⟩); Ns.i3 w hL h1 h2
  cases fl with
  | next=>replace r2:w=Flow.next:=r2; subst r2; exact (rfl:Value.none=Value.none)
  | cont=>replace r2:w=Flow.cont:=r2; subst r2; exact (rfl:Value.none=Value.none)
  | ret sv=>obtain ⟨u,rfl,g2⟩:=r2; exact g2
theorem Ao (ok:bR D n lo) (co:c.Of D) (stk:dI c) (hh:c.A.handled=none) (hdp:c.A.depth+4 * n+45<recursionLimit) (hun:c.A.units+60 * n+663<cLine) (G:Gd K mg mb c.hG) {f:Addr} {d:bf} (F:aq K f d) {xs:List SV} {vs:List Value} (hv:bX c.ν ρ₀ xs vs) :
 a0 c ρ₀ (uY lo d xs) (λQ E s=>∀ R:Result→Shared→Prop,(∀ v s',Q v s'→R (.ok (.ret v)) s')→codeAny c.M c.A (.call (.ref f) ⟨vs,[]⟩) R s) (VR c.ν) :=
 λσ outs e ρ s x S Q E hQ R hR=>An ok co stk hh hdp hun G F (hv.mono x) e S λy σ' ρ' s' v hm x' S' r sm _=>hR _ _ (hQ y σ' ρ' s' v hm x' S' r sm)
theorem Qx (ok:bR D n lo) (co:c.Of D) (rm:Rm c (n+1)) (G:Gd K mg mb c.hG) {f:Addr} {d:bf} (F:aq K f d) {xs:List SV} {vs:List Value} (hv:bX c.ν ρ₀ xs vs) :
 aJ c ρ₀ (uY lo d xs) (call (.ref f) vs) (VR c.ν):=λσ outs e ρ s x S Q E hQ =>
 wpAny_call (Ao ok co rm.stk rm.hh rm.d1 rm.u1 G F hv σ outs e ρ s x S Q E hQ _ λv s' h=>h)
end
def L9 (x:SV):Bool:=Li x true false
theorem JX {x:SV} (h:L9 x=true):x=.none:=by
 revert h
 exact qV (p:=λq=>q=true→x=.none) (λe _=>e) λh=>nomatch h
def Qy (a:SV) (o:Option (List (SV×SS))):Option (List (SV×SS)):=ob o λl=>cond (l.all λp=>L9 p.1) (some (l.map λp=>(a,p.2))) none
def MA (lo:Lo) (C:Nat) (fd:bf) (xs:List SV):RM SV:=λσ =>
 cond (Nat.blt (σ.nx+1) 1024) (Qy (.ref (σ.nx+1)) (uY lo fd (.ref (σ.nx+1)::xs) { σ with hp:=(σ.hp.put σ.nx (.dict [])).put (σ.nx+1) (.inst C σ.nx),nx:=σ.nx+2 })) none
section
variable {D:Ds} {n:Nat} {lo:Lo} {c:Cx} {ρ₀:Nm} {K:Frag} {mg mb:Str→Option Value} {fns:List (Nat×bf)} {cls:List (Nat×dn)}
theorem JY (ok:bR D n lo) (co:c.Of D) (rm:Rm c (n+1)) (G:Gd K mg mb c.hG) {C:Addr} {cd:dn} {fd:bf} (k:sS K C cd) (F:aq K cd.init fd) {xs:List SV} {vs:List Value} (hv:bX c.ν ρ₀ xs vs) :
 aJ c ρ₀ (MA lo C fd xs) (call (.ref C) vs) (VR c.ν):=by
 intro σ outs e ρ s x S Q E hQ
 refine aw e λz e=>aS e λl hl e=>aw e λz2 e=>?_
 have hx:=aC.mp z
 have X:K.In s.heap:=λb o z=>S.br _ _ (G.X _ _ z)
 have no:∀ (h:Heap),h.get? h.objs.size=none:=λh=>by
  cases w:h.get? h.objs.size with
  | none=>rfl
  | some o'=>exact absurd (bE w) (Nat.lt_irrefl _)
 have X1:=S.ext s.heap.objs.size
 have S1:c.SR (bA ρ σ.nx s.heap.objs.size) { σ with hp:=σ.hp.put σ.nx (.dict []),nx:=σ.nx+1 } { s with heap:=s.heap.push emptyDict } :=
  SR.alloc (t:=s.toks) (o:=emptyDict) S (Nat.lt_of_succ_lt hx) (no _) (Heap.get?_push_size _ rfl) (λb o e=>cK _ e) ⟨[],rfl,trivial⟩
 have X2:=S1.ext (s.heap.push emptyDict).objs.size
 have S2:c.SR (bA (bA ρ σ.nx s.heap.objs.size) (σ.nx+1) (s.heap.push emptyDict).objs.size) { σ with hp:=(σ.hp.put σ.nx (.dict [])).put (σ.nx+1) (.inst C σ.nx),nx:=σ.nx+2 } { s with heap:=(s.heap.push emptyDict).push (instObj C s.heap.objs.size) } :=
  SR.alloc (t:=s.toks) (o:=instObj C s.heap.objs.size) S1 hx (no _) (Heap.get?_push_size _ rfl) (λb o e=>cK _ e) ⟨_,X2 _ _ cp,rfl⟩
 have X12:=X1.trans X2
 have hself:VR c.ν (bA (bA ρ σ.nx s.heap.objs.size) (σ.nx+1) (s.heap.push emptyDict).objs.size) (.ref (σ.nx+1)) (.ref (s.heap.objs.size+1)):=⟨(s.heap.push emptyDict).objs.size,cp,by rw [Heap.size_push]⟩
 replace hQ:∀ σ' ρ' s',(SV.none,σ')∈l→Ext ρ ρ'→c.SR ρ' σ' s'→VR c.ν ρ' (.ref (σ.nx+1)) (.ref (s.heap.objs.size+1))→aT s s'→Q (.ref (s.heap.objs.size+1)) s':=λσ' ρ' s' hm x S r sm =>
  hQ _ σ' ρ' s' _ (aD e▸List.mem_map.mpr ⟨(.none,σ'),hm,rfl⟩) x S r sm
 clear e S S1
 refine wpAny_call ?_
 obtain ⟨hh,g,d,t,os⟩:=s
 refine make_core (makes_of X k.mak) (looks_findIn X k.ini) (λself=>bind_fn X self k.fn) (.inl rfl) ?_
 let c':Cx:={ c with A:=c.A.under (.builtin "type.__call__" ⟨.ref C::vs,[]⟩) }
 have main:=Ao (c:=c') ok ⟨co.prog,co.w,co.ν,co.hG⟩ (rm.stk.same (c':=c') rfl rfl rfl rfl) rm.hh rm.d2 rm.u2 G F
  (xs:=.ref (σ.nx+1)::xs) (vs:=.ref (hh.objs.size+1)::vs) ⟨hself,(hv.mono x).mono X12⟩ _ l hl _ _ (.refl _) S2 (λv s'=>v=.none∧Q (.ref (hh.objs.size+1)) s') E (λy σ' ρ' s' v hm x' S' r sm=>?_)
 ·exact main _ λv s' hv=>⟨hv.1,hv.2⟩
 ·have hy:=JX (List.all_eq_true.mp z2 _ hm)
  dsimp only at hy
  subst hy
  exact ⟨r,hQ σ' ρ' s' hm (X12.trans x') S' (hself.mono x') ((aT.mk _ _ t).trans sm)⟩
end
structure Pg where
 glob:List (Nat×SV)
 kt:List (Nat×List SV)
 cls:List (Nat×dn)
 fns:List (Nat×bf)
 sp:List (Nat×(Nat→List SV→RM SV))
 pr:Params
structure aY (g:Pg) (K:Frag) (mg mb:Str→Option Value) (hG:Heap):Prop where
 G:Gd K mg mb hG
 k:Y7 K
 glob:yE mg mb g.glob
 kt:yH hG g.kt
 cls:cq K g.cls
 fns:L7 K g.fns
 isi:uO K g.cls
 sp:∀ a m,lk g.sp a=some m→keepIn K (.ref a)=true∧∀ (k:Nat) (c:Cx) (ρ:Nm) (xs:List SV) (vs:List Value),c.hG=hG→c.w.params=g.pr→Rm c k→bX c.ν ρ xs vs →
  aJ c ρ (m k xs) (call (.ref a) vs) (VR c.ν)
def yb (m:RM Bool):RM SV:=RM.az m λb=>RM.ret (.bool b)
def Ta (xs:List SV) (f:SV→RM SV):RM SV:=List.rec (motive:=λ_=>RM SV) RM.bad (λa r _=>List.rec (motive:=λ_=>RM SV) (f a) (λ_ _ _=>RM.bad) r) xs
def Zg (xs:List SV) (f:SV→SV→RM SV):RM SV:=List.rec (motive:=λ_=>RM SV) RM.bad (λa r _=>Ta r (f a)) xs
theorem jR {c:Cx} {ρ:Nm} {f:SV→RM SV} {t:List Value→Sem Value} {xs:List SV} {vs:List Value} (hv:bX c.ν ρ xs vs) (h:∀ a v,VR c.ν ρ a v→aJ c ρ (f a) (t [v]) (VR c.ν)):aJ c ρ (Ta xs f) (t vs) (VR c.ν):=by
 cases xs with
 | nil=>exact aJ.bad
 | cons a r =>
  cases r with
  | cons _ _=>exact aJ.bad
  | nil=>exact hv.un λv t h1 h2=>h2.nl (h a v h1)
theorem Ap {c:Cx} {ρ:Nm} {f:SV→SV→RM SV} {t:List Value→Sem Value} {xs:List SV} {vs:List Value} (hv:bX c.ν ρ xs vs) (h:∀ a b v u,VR c.ν ρ a v→VR c.ν ρ b u→aJ c ρ (f a b) (t [v,u]) (VR c.ν)):aJ c ρ (Zg xs f) (t vs) (VR c.ν):=by
 cases xs with
 | nil=>exact aJ.bad
 | cons a r=>exact hv.un λv vs h1 h2=>jR (t:=λl=>t (v::l)) h2 λb u h2=>h a b v u h1 h2
def krC (g:Pg) (k:Nat) (lo:Lo) (xs:List SV) (a:Nat):RM SV:=iX (lk g.sp a) (λm=>m k xs) (iX (lk g.fns a) (λd=>uY lo d xs) (iX (lk g.cls a) (λcd=>iX (lk g.fns cd.init) (λfd=>MA lo a fd xs) RM.bad) RM.bad))
def biC (g:Pg) (srt:SV→RM SV) (xs:List SV) (m:Nat):RM SV:=Nat.rec (motive:=λ_=>RM SV) (Ta xs λa=>RM.look λσ=>UC σ.hp a) (λm _=>Nat.rec (motive:=λ_=>RM SV) (Zg xs λa b=>RM.opt (UD a b))
 (λm _=>Nat.rec (motive:=λ_=>RM SV) (Zg xs λa b=>yb (RM.look λσ=>UB g.cls σ.hp a b)) (λm _=>Nat.rec (motive:=λ_=>RM SV) (Ta xs srt) (λ_ _=>RM.bad) m) m) m) m
def tyC (xs:List SV) (m:Nat):RM SV:=Nat.rec (motive:=λ_=>RM SV) (Ta xs λa=>RM.made λσ=>Lw σ.hp a) (λm _=>Nat.rec (motive:=λ_=>RM SV) (Ta xs λa=>RM.made λ_=>UE a) (λ_ _=>RM.bad) m) m
def MB (g:Pg) (k:Nat) (srt:SV→RM SV) (lo:Lo) (f:SV) (xs:List SV):RM SV:=SV.rec (motive:=λ_=>RM SV) RM.bad (λ_=>RM.bad) (λ_=>RM.bad) (λ_=>RM.bad) (λ_=>RM.bad) (krC g k lo xs) (tyC xs) (biC g srt xs) RM.bad f
section
variable {D:Ds} {n:Nat} {lo:Lo} {c:Cx} {ρ₀:Nm} {g:Pg} {K:Frag} {mg mb:Str→Option Value} {srt:SV→RM SV}
theorem nW {m:RM Bool} {t:Sem Value} (h:aJ c ρ₀ m t (λ_ b v=>v=.bool b)):aJ c ρ₀ (yb m) t (VR c.ν):=by
 refine a0.snd (a0.bind (W':=λv Q E s=>Q v s) h.w λρ₁ b v x1 r1=>a0.ret (a:=SV.bool b) (v:=v) (R:=VR c.ν) λρ x=>r1) λQ E s h=>h
theorem CR (ok:bR D n lo) (co:c.Of D) (hw:c.w.params=g.pr) (rm:Rm c (n+1)) (P:aY g K mg mb c.hG) (hsrt:∀ (ρ:Nm) (a:SV) (va:Value),VR c.ν ρ a va→aJ c ρ (srt a) (call (.builtin "sorted") [va]) (VR c.ν)) {f:SV} {xs:List SV} {vf:Value} {vs:List Value} (hf:VR c.ν ρ₀ f vf) (hv:bX c.ν ρ₀ xs vs) :
 aJ c ρ₀ (MB g n srt lo f xs) (call vf vs) (VR c.ν):=by
 cases f with
 | none | bool _ | int _ | str _ | ref _ | anyN=>exact aJ.bad
 | kref a =>
  rw [show vf=_ from hf]
  refine eM (p:=λm=>aJ c ρ₀ m (call (.ref a) vs) (VR c.ν)) (λm q=>(P.sp _ _ q).2 n c ρ₀ xs vs rfl hw (rm.le (Nat.le_succ n)) hv) ?_
  refine eM (p:=λm=>aJ c ρ₀ m (call (.ref a) vs) (VR c.ν)) (λd q=>Qx ok co rm P.G (P.fns _ _ q) hv) ?_
  exact eM (p:=λm=>aJ c ρ₀ m (call (.ref a) vs) (VR c.ν)) (λcd q=>eM (p:=λm=>aJ c ρ₀ m (call (.ref a) vs) (VR c.ν)) (λfd q2=>JY ok co rm P.G (P.cls _ _ q) (P.fns _ _ q2) hv) aJ.bad) aJ.bad
 | ty m =>
  rw [show vf=_ from hf]
  cases m with
  | zero=>exact jR (t:=λl=>call (.type "list") l) hv λa v h=>FF h
  | succ m =>
   cases m with
   | zero=>exact jR (t:=λl=>call (.type "range") l) hv λa v h=>JL h
   | succ m=>exact aJ.bad
 | bi m =>
  rw [show vf=_ from hf]
  cases m with
  | zero=>exact jR (t:=λl=>call (.builtin "len") l) hv λa v h=>JI h
  | succ m =>
   cases m with
   | zero=>exact Ap (t:=λl=>call (.builtin "max") l) hv λa b v u h h2=>JK rm.hh h h2
   | succ m =>
    cases m with
    | zero=>exact Ap (t:=λl=>call (.builtin "isinstance") l) hv λa b v u h h2=>nW (JH P.G P.k P.cls P.isi h h2)
    | succ m =>
     cases m with
     | zero=>exact jR (t:=λl=>call (.builtin "sorted") l) hv λa v h=>hsrt _ _ _ h
     | succ m=>exact aJ.bad
def UO (g:Pg) (f:SV):Bool:=SV.rec (motive:=λ_=>Bool) false (λ_=>false) (λ_=>false) (λ_=>false) (λ_=>false) (λa=>(lk g.sp a).isSome || (lk g.fns a).isSome || (lk g.cls a).isSome) (λ_=>true) (λ_=>true) false f
theorem yc {α:Type} {o:Option α} (h:o.isSome=true):∃ a,o=some a:=by
 cases o with
 | none=>exact nomatch h
 | some a=>exact ⟨a,rfl⟩
noncomputable def notAttr:Expr→Bool
 | .Attribute _ _ _=>false
 | _=>true
def Aq (g:Pg) (lo:Lo) (ce:CE) (func:Expr) (args:List Expr):RM SV:=cond (bO args&&notAttr func) (RM.az (lo.E ce func) λf=>cond (UO g f) (RM.az (qF lo ce args) λxs=>lo.C f xs) RM.bad) RM.bad
theorem dp {env:Env} {p:Pos} {es:List Expr} (h:bO es=true):(backTo p (starEach es env)).any (·.1)=false:=by
 induction es with
 | nil=>rfl
 | cons e r ih =>
  refine fE h λq h=>?_
  rw [bT q,gK,List.any_cons]
  exact ih h
theorem CS {env:Env} {ce:CE} (ok:bR D n lo) (co:c.Of D) (rm:Rm c n) (P:aY g K mg mb c.hG) (eo:aG c ρ₀ ce env) (func:Expr) (args:List Expr) {p:Pos} :
 aJ c ρ₀ (Aq g lo ce func args) (eval (.Call func args [] p) env) (VR c.ν):=by
 refine aJ.guard λhs=>?_
 rw [Bool.and_eq_true] at hs
 have ev:eval (.Call func args [] p) env=(eval func env >>= λf=>callWith p f [] (backTo p (starEach args env)) []):=by
  cases func<;>first | rfl | cases hs.2
 rw [ev]
 refine (ok.E c ρ₀ ce env func co rm eo).bind λρ₁ f vf x1 r1=>aJ.guard λhc=>?_
 have hp:=dp (env:=env) (p:=p) hs.1
 have body:a0 c ρ₁ (RM.az (qF lo ce args) λxs=>lo.C f xs) (λQ E s=>wpAny c.M c.A (evalArgs vf true (backTo p (starEach args env)) []) (λa s₁=>(∃ ρ σ,c.SR ρ σ s₁)∧wpAny c.M c.A (call vf ([]++a.pos) a.kw) Q E s₁) E s) (VR c.ν):=by
  intro σ outs e ρ s x S Q E hQ
  obtain ⟨l,hl,hg⟩:=RM.aO e
  refine gM ok co rm args (eo.mono x1) σ l hl ρ s x S _ E λxs σ1 ρ1 s1 a hm x1' S1 r sm1=>?_
  obtain ⟨o,ho,hs⟩:=hg _ hm
  refine ⟨⟨ρ1,σ1,S1⟩,?_⟩
  rw [r.2,List.nil_append]
  exact ok.C c ρ1 f xs vf a.pos co rm ((r1.mono x).mono x1') r.1 σ1 o ho ρ1 s1 (.refl _) S1 Q E λy σ2 ρ2 s2 u hy x2 S2 r2 sm2=>hQ y σ2 ρ2 s2 u (hs _ hy) (x1'.trans x2) S2 r2 (sm1.trans sm2)
 refine a0.snd body λQ E s h=>?_
 have hpl:((backTo p (starEach args env)).any (·.1) || ([]:List (Option Str×Sem Value)).any (·.1.isNone))=false:=by rw [hp]; rfl
 cases f with
 | kref a =>
  cases r1
  have kp:keepIn K (.ref a)=true:=by
   have hc:((lk g.sp a).isSome || (lk g.fns a).isSome || (lk g.cls a).isSome)=true:=hc
   rw [Bool.or_eq_true,Bool.or_eq_true] at hc
   rcases hc with (hc | hc) | hc
   ·exact (yc hc).elim λd w=>(P.sp _ _ w).1
   ·exact (yc hc).elim λd w=>(P.fns _ _ w).kp
   ·exact (yc hc).elim λd w=>(P.cls _ _ w).kp
  refine callWith_of (P:=λh=>K.In h) hpl (keeps_K kp) (bI h (λa s₁ h₁=>?_) λ_ _ x=>x)
  obtain ⟨⟨ρ',σ',S'⟩,h₁⟩:=h₁
  exact ⟨λb o z=>S'.br _ _ (P.G.X _ _ z),h₁⟩
 | bi m=>cases r1; exact Calls.callWith_builtin hp (bI h (λa s₁ h₁=>h₁.2) λ_ _ x=>x)
 | ty m=>cases r1; exact PySem.callWith_type hp (bI h (λa s₁ h₁=>h₁.2) λ_ _ x=>x)
 | _=>exact absurd hc Bool.false_ne_true
end
theorem fH:∀ {l:List Str},sortedS l=true→(l.map λx=>x.cps.toList).Pairwise (λa b=>¬ b<a)
 | [],_=>.nil
 | x::r,h=>by
  have key:∀ (p:Str) (r:List Str),risingS p r=true→((p::r).map λx=>x.cps.toList).Pairwise (λa b=>¬ b<a):=by
   intro p r
   induction r generalizing p with
   | nil=>intro _; simp
   | cons y r ih =>
    intro h
    have h':(!Spec.ltCps y.cps.toList p.cps.toList&&risingS y r)=true:=h
    rw [Bool.and_eq_true,Bool.not_eq_true',ltCps_eq] at h'
    have hy:¬ y.cps.toList<p.cps.toList:=of_decide_eq_false h'.1
    have ih':=ih y h'.2
    rw [List.map_cons,List.pairwise_cons]
    refine ⟨λb hb=>?_,ih'⟩
    rw [List.map_cons] at hb ih'
    rcases aM hb with rfl | hb
    ·exact hy
    ·have h2:=(List.pairwise_cons.mp ih').1 b hb
     intro hlt
     exact List.not_lt.mpr (List.le_trans (List.not_lt.mp hy) (List.not_lt.mp h2)) hlt
  exact key x r h
theorem lC:∀ {a b:List (List Nat)},a.Perm b→a.Pairwise (λa b=>¬ b<a)→b.Pairwise (λa b=>¬ b<a)→a=b
 | [],_,p,_,_=>p.nil_eq
 | x::r,b,p,ha,hb=>by
  cases b with
  | nil=>exact absurd p.length_eq (by simp)
  | cons y t =>
   have hx:x∈y::t:=p.mem_iff.mp (.head _)
   have hy:y∈x::r:=p.mem_iff.mpr (.head _)
   have e:x=y:=by
    rcases aM hx with h | h
    ·exact h
    ·rcases aM hy with h' | h'
     ·exact h'.symm
     ·have a1:=(List.pairwise_cons.mp ha).1 y h'
      have a2:=(List.pairwise_cons.mp hb).1 x h
      exact List.le_antisymm (List.not_lt.mp a1) (List.not_lt.mp a2)
   subst e
   rw [lC (List.Perm.cons_inv p) (List.pairwise_cons.mp ha).2 (List.pairwise_cons.mp hb).2]
theorem JZ {a b:List Str} (h:(a.map λx=>x.cps.toList)=b.map λx=>x.cps.toList):a=b:=by
 have inj:∀ x y:Str,x.cps.toList=y.cps.toList→x=y:=λx y e=>by
  obtain ⟨⟨x⟩⟩:=x; obtain ⟨⟨y⟩⟩:=y
  have e':x=y:=e
  rw [e']
 induction a generalizing b with
 | nil=>cases b with
  | nil=>rfl
  | cons _ _=>cases h
 | cons x a ih=>cases b with
  | nil=>cases h
  | cons y b =>
   simp only [List.map_cons,List.cons.injEq] at h
   rw [inj x y h.1,ih h.2]
def MC (H:Hp) (v:SV):Option SO:=qC v (λn=>ob (gD (H.get n)) λes=>cond (kM es&&sortedS (es.map λp=>dec p.1)&&Nat.blt es.length 60) (some (.list (es.map λp=>.str p.1))) none) none
theorem yd {P:Nat→Value→Prop} {ss:List Str}:∀ {vs:List Value},vs.length=ss.length→(∀ (j:Nat) (v:Value) (x:Str),vs[j]?=some v→ss[j]?=some x→∃ t,v=.str x t)→StrsAre vs ss:=by
 induction ss with
 | nil=>intro vs h _; cases vs with
  | nil=>exact .nil
  | cons _ _=>cases h
 | cons x ss ih =>
  intro vs h hj
  cases vs with
  | nil=>cases h
  | cons v vs =>
   obtain ⟨t,rfl⟩:=hj 0 v x rfl rfl
   exact .cons x t (ih (by simpa using h) λj v x h1 h2=>hj (j+1) v x (by simpa using h1) (by simpa using h2))
theorem Fh {ν:Nat→Int} {ρ:Nm} {es:List (Nat×SV)}:∀ {vs:List Value},StrsAre vs (es.map λp=>dec p.1)→bX ν ρ (es.map λp=>.str p.1) vs:=by
 induction es with
 | nil=>intro vs h; cases h; trivial
 | cons p r ih =>
  intro vs h
  cases h with
  | cons x t h=>exact ⟨⟨t,rfl⟩,ih h⟩
section
variable {c:Cx} {ρ₀:Nm} {K:Frag} {mg mb:Str→Option Value}
theorem Fi (hh:c.A.handled=none) (G:Gd K mg mb c.hG) {a:SV} {va:Value} (ha:VR c.ν ρ₀ a va):aJ c ρ₀ (RM.made λσ=>MC σ.hp a) (call (.builtin "sorted") [va]) (VR c.ν):=by
 intro σ outs e ρ s x S Q E hQ
 obtain ⟨so,q,hx,rfl⟩:=iI e
 replace ha:=ha.mono x
 revert q
 refine dG (p:=λq=>q=some so→wpAny c.M c.A (call (.builtin "sorted") [va]) Q E s) (λn ea q=>aS q λes g q=>aw q λz q=>dW z λz z3=>dW z λz1 z2=>?_) λq=>nS q
 subst ea
 replace g:=sJ g
 obtain ⟨d,hn,rfl⟩:=ha
 obtain rfl:=aD q
 have hlen:=aC.mp z3
 obtain ⟨es',h1,h2⟩:=S.jH g hn
 have hl:=h2.yQ
 have hm:=kP (prog:=c.prog) (w:=c.w) h1 h2 z1
 refine Calls.call_function_entry kind_sorted plain_sorted entry_sorted (args_sorted1 _) ?_
 unfold Builtin.«sorted»
 refine aF (m:=checkCount "sorted" 1 1 _) (aP ?_)
 refine aF (kdu_collect (A:=c.A.in1) (kdl_dict (S.me G g hn)) hh hm (by rw [hl,sizeLine_eq]; omega) λh' tk acc hk hacc=>?_)
 have hal:acc.toList.length=es.length:=by rw [Array.length_toList,← hl]; exact hacc.1
 have hS:StrsAre acc.toList (es.map λp=>dec p.1):=yd (P:=λ_ _=>True) (by rw [hal,List.length_map]) λj v y e1 e2=>by
  obtain ⟨k,u,e3,e4⟩:=hacc.2 j v (by rw [← Array.getElem?_toList]; exact e1)
  have e5:(((es.zip es').map λp=>(dec p.1.1,p.2.val)).map (·.1))[j]?=some k:=by rw [List.getElem?_map,e3]; rfl
  rw [h2.Ai,e2] at e5
  cases e5
  exact Value.isStrOf_shape e4
 refine aF (wpAny_newList ?_ (by rw [hal,sizeLine_eq]; omega))
 have hoL:(h'.push { cls:=.type "list",data:=.seq acc.toList.toArray }).get? h'.objs.size=some (seqObj "list" acc.toList.toArray 0):=Heap.get?_push_size _ rfl
 have hfresh:s.heap.get? h'.objs.size=none:=by
  cases w:s.heap.get? h'.objs.size with
  | none=>rfl
  | some o=>exact absurd (bE (hk _ _ w)) (Nat.lt_irrefl _)
 refine aF (cL (wpAny_call_entry PyProof.Rows.slot_list_sort ⟨_,hoL,rfl⟩ PyProof.Rows.entry_list_sort (list_sort_treeK strKind_oneLt hoL hS.keysOf (λv₁ v₂ rest e=>keyKind_strs (by rw [← e]; exact hS)) (by rw [hal]; omega) λst' a1 a2=>⟨_,rfl,?_⟩) (PyProof.Rows.args_list_sort _)))
 obtain ⟨ss',b1,b2,b3⟩:=sorted_out_str hS a1 a2
 have hss:ss'=es.map λp=>dec p.1:=JZ (lC (b2.map _) (fH b3) (fH z2))
 rw [hss] at b1
 refine aP ⟨_,rfl,?_⟩
 obtain ⟨ep,hat⟩:=sortedHeap_at (out:=(arrOf st').map (·.2)) (vs:=acc.toList) hoL
 have keep:∀ b o,s.heap.get? b=some o→(sortedHeap (h'.push { cls:=.type "list",data:=.seq acc.toList.toArray }) h'.objs.size acc.toList ((arrOf st').map (·.2))).get? b=some o:=λb o e=>by
  have hb:=bE (hk _ _ e)
  rw [sortedHeap_old (Nat.ne_of_lt hb) (by rw [Heap.size_push]; exact Nat.lt_succ_of_lt hb)]
  exact cK _ (hk _ _ e)
 have X:=S.ext h'.objs.size
 refine hQ _ _ _ _ _ (.head _) X (SR.alloc (t:=tk) (a:=h'.objs.size) (o:=bF ((arrOf st').map (·.2)).toList ep) S hx hfresh ?_ keep ⟨_,_,rfl,Fh b1⟩) ⟨_,by simp [bA],rfl⟩ (.mk _ _ _)
 rw [hat]
end
def mn (lo:Lo) (ce:CE) (keys:List (Option Expr)):List Expr→RM (List (Nat×SV)):=List.rec (motive:=λ_=>List Expr→RM (List (Nat×SV))) (λvals=>List.rec (motive:=λ_=>RM (List (Nat×SV))) (RM.ret []) (λ_ _ _=>RM.bad) vals)
 (λko _ ih vals=>iX ko (λk=>List.rec (motive:=λ_=>RM (List (Nat×SV))) RM.bad (λv vs _=>RM.az (lo.E ce k) λkv=>Ac kv (λx=>RM.az (lo.E ce v) λvv=>RM.az (ih vs) λr=>RM.ret ((x,vv)::r)) RM.bad) vals) RM.bad) keys
def jS (d:Nat) (l:List (Nat×SV)):RM Unit:=List.rec (motive:=λ_=>RM Unit) (RM.ret ()) (λp _ ih=>RM.az (kL d p.1 p.2) λ_=>ih) l
def Ar (l:List (Option Expr)):Bool:=List.rec (motive:=λ_=>Bool) true (λo _ ih=>iX o (λ_=>ih) false) l
def As (lo:Lo) (ce:CE) (keys:List (Option Expr)) (vals:List Expr):RM SV:=cond (Ar keys&&Nat.beq keys.length vals.length&&Nat.ble keys.length 15) (RM.az (RM.alloc (.dict [])) λd=>qC d (λn=>RM.az (mn lo ce keys vals) λps=>RM.az (jS n ps) λ_=>RM.ret (.ref n)) RM.bad) RM.bad
def Fj (lo:Lo) (ce:CE) (keys:List (Option Expr)) (vals:List Expr):RM SV:=List.rec (motive:=λ_=>RM SV) (List.rec (motive:=λ_=>RM SV) (RM.alloc (.dict [])) (λ_ _ _=>RM.bad) vals) (λ_ _ _=>As lo ce keys vals) keys
section
variable {D:Ds} {n:Nat} {lo:Lo} {c:Cx} {ρ₀:Nm} {env:Env} {ce:CE} {K:Frag} {mg mb:Str→Option Value}
noncomputable def MD (ν:Nat→Int) (ρ:Nm):List (Nat×SV)→List (Value×Value)→Prop
 | [],[]=>True
 | p::r,q::l=>((∃ t,q.1=.str (dec p.1) t)∧VR ν ρ p.2 q.2)∧MD ν ρ r l
 | _,_=>False
theorem MD.mono {ν:Nat→Int} {ρ ρ':Nm} (x:Ext ρ ρ') {a:List (Nat×SV)}:∀ {b:List (Value×Value)},MD ν ρ a b→MD ν ρ' a b:=by
 induction a with
 | nil =>
  intro b h
  cases b with
  | nil=>exact trivial
  | cons=>exact h.elim
 | cons p r ih =>
  intro b h
  cases b with
  | nil=>exact h.elim
  | cons q l=>exact ⟨⟨h.1.1,h.1.2.mono x⟩,ih h.2⟩
theorem qk (ok:bR D n lo) (co:c.Of D) (rm:Rm c n) {p:Pos} (keys:List (Option Expr)):∀ (vals:List Expr) {ρ₀:Nm} {env:Env},aG c ρ₀ ce env→aJ c ρ₀ (mn lo ce keys vals) (evalPairs (pairTrees keys vals env p)) (MD c.ν):=by
 induction keys with
 | nil =>
  intro vals ρ₀ env eo
  cases vals with
  | nil=>exact aJ.known (v:=([]:List (Value×Value))) (R:=MD c.ν) (λ_ _=>trivial) λs Q E q=>pairTrees_nil_walk q
  | cons=>exact aJ.bad
 | cons ko ks ih =>
  intro vals ρ₀ env eo
  cases ko with
  | none=>exact aJ.bad
  | some k =>
   cases vals with
   | nil=>exact aJ.bad
   | cons v vs =>
    refine a0.snd (W:=λQ E s=>wpAny c.M c.A (eval k env) (λkv s₁=>wpAny c.M c.A (eval v env) (λvv s₂=>wpAny c.M c.A (evalPairs (pairTrees ks vs env p)) (λr s₃=>Q ((kv,vv)::r) s₃) E s₂) E s₁) E s) (((ok.E c ρ₀ ce env k co rm eo).w).bind
     (W':=λkv Q E s₁=>wpAny c.M c.A (eval v env) (λvv s₂=>wpAny c.M c.A (evalPairs (pairTrees ks vs env p)) (λr s₃=>Q ((kv,vv)::r) s₃) E s₂) E s₁) λρ₁ kv vk x1 r1=>?_) λQ E s h=>pairTrees_cons_walk h
    cases kv<;>first | exact a0.bad | skip
    obtain ⟨t,rfl⟩:=r1
    refine ((ok.E c ρ₁ ce env v co rm (eo.mono x1)).w).bind (W':=λvv (Q:List (Value×Value)→Shared→Prop) E s₂=>wpAny c.M c.A (evalPairs (pairTrees ks vs env p)) (λr s₃=>Q ((_,vv)::r) s₃) E s₂) λρ₂ vv v2 x2 r2=>?_
    refine ((ih vs (eo.mono (x1.trans x2))).w).bind (W':=λr (Q:List (Value×Value)→Shared→Prop) E s₃=>Q ((_,_)::r) s₃) λρ₃ r l x3 r3=>?_
    exact a0.ret (R:=MD c.ν) λρ x=>⟨⟨⟨t,rfl⟩,(r2.mono x3).mono x⟩,r3.mono x⟩
theorem ql {d:Nat} {a:Addr} {ps:List (Nat×SV)}:∀ {l:List (Value×Value)} {ρ₀:Nm},ρ₀ d=some a→MD c.ν ρ₀ ps l→aJ c ρ₀ (jS d ps) (storeAll a l) (λ_ _ _=>True):=by
 induction ps with
 | nil =>
  intro l ρ₀ ha h
  cases l with
  | cons=>exact h.elim
  | nil=>exact aJ.known (v:=PUnit.unit) (R:=λ_ _ _=>True) (λ_ _=>trivial) λs Q E q=>aP q
 | cons p r ih =>
  intro l ρ₀ ha h
  cases l with
  | nil=>exact h.elim
  | cons q l =>
   obtain ⟨q1,q2⟩:=q
   obtain ⟨⟨⟨t,h1⟩,h2⟩,h3⟩:=h
   dsimp only at h1 h2
   subst h1
   unfold storeAll
   rw [List.forIn_cons]
   intro σ outs e ρ s x S Q E hQ
   obtain ⟨l1,hl,hg⟩:=RM.aO (show RM.az (kL d p.1 p.2) (λ_=>jS d r) σ=some outs from e)
   refine aF (aF (uJ ha h2 σ l1 hl ρ s x S _ E λy σ1 ρ1 s1 u hm x1 S1 r1 sm1=>aP ?_))
   obtain ⟨o,ho,hs⟩:=hg _ hm
   exact ih ((x.trans x1) _ _ ha) (h3.mono (x.trans x1)) σ1 o ho ρ1 s1 (.refl _) S1 Q E λy σ2 ρ2 s2 u hy x2 S2 r2 sm2=>hQ y σ2 ρ2 s2 u (hs _ hy) (x1.trans x2) S2 r2 (sm1.trans sm2)
theorem ud {keys:List (Option Expr)} (h:Ar keys=true):keys.all (·.isSome)=true:=by
 induction keys with
 | nil=>rfl
 | cons o r ih =>
  cases o with
  | none=>exact nomatch h
  | some _=>rw [List.all_cons]; exact ih h
theorem Fl (ok:bR D n lo) (co:c.Of D) (rm:Rm c n) (eo:aG c ρ₀ ce env) (keys:List (Option Expr)) (vals:List Expr) {p:Pos}:aJ c ρ₀ (Fj lo ce keys vals) (eval (.Dict keys vals p) env) (VR c.ν):=by
 cases keys with
 | nil =>
  cases vals with
  | nil=>exact aJ.alloc (o:=emptyDict) rfl (λρ x=>⟨[],rfl,trivial⟩) λs Q E q=>wpAny_Dict_empty q
  | cons=>exact aJ.bad
 | cons ko ks =>
  show aJ c ρ₀ (As lo ce (ko::ks) vals) _ _
  generalize hk:ko::ks=keys
  have hk:keys≠[]:=λe=>nomatch hk.trans e
  refine aJ.guard λhg=>dW hg λhg h3=>dW hg λh1 h2=>?_
  intro σ outs e ρ s x S Q E hQ
  obtain ⟨l,hl,hgo⟩:=RM.aO e
  refine aw hl λz hl=>?_
  obtain ⟨o,ho,hs⟩:=hgo (.ref σ.nx,{ σ with hp:=σ.hp.put σ.nx (.dict []),nx:=σ.nx+1 }) (aD hl▸.head _)
  have X:=S.ext s.heap.objs.size
  have S1:c.SR (bA ρ σ.nx s.heap.objs.size) { σ with hp:=σ.hp.put σ.nx (.dict []),nx:=σ.nx+1 } { s with heap:=s.heap.push emptyDict }:=by
   refine SR.alloc (t:=s.toks) (o:=emptyDict) S (aC.mp z) ?_ (Heap.get?_push_size _ rfl) (λb o e=>cK _ e) ⟨[],rfl,trivial⟩
   cases w:s.heap.get? s.heap.objs.size with
   | none=>rfl
   | some o'=>exact absurd (bE w) (Nat.lt_irrefl _)
  refine wpAny_Dict_any (ud h1) (ar h2) hk (bK h3) ?_
  obtain ⟨l2,hl2,hg2⟩:=RM.aO (show RM.az (mn lo ce keys vals) (λps=>RM.az (jS σ.nx ps) λ_=>RM.ret (.ref σ.nx)) _=some o from ho)
  refine qk ok co rm keys vals (eo.mono (x.trans X)) _ l2 hl2 _ _ (.refl _) S1 _ E λps σ2 ρ2 s2 vs hm x2 S2 r2 sm2=>?_
  obtain ⟨o2,ho2,hs2⟩:=hg2 _ hm
  obtain ⟨l3,hl3,hg3⟩:=RM.aO ho2
  refine ql (x2 _ _ cp) r2 σ2 l3 hl3 ρ2 s2 (.refl _) S2 _ E λy σ3 ρ3 s3 u hm3 x3 S3 r3 sm3=>?_
  obtain ⟨o3,ho3,hs3⟩:=hg3 _ hm3
  exact hQ (.ref σ.nx) σ3 ρ3 s3 _ (hs _ (hs2 _ (hs3 _ (aD ho3▸.head _)))) ((X.trans x2).trans x3) S3 ⟨_,x3 _ _ (x2 _ _ cp),rfl⟩ ((aT.mk s _ s.toks).trans (sm2.trans sm3))
end
noncomputable def iP:Expr→Bool
 | .Name _ _=>true
 | .Attribute _ _ _=>true
 | .Subscript _ _ _=>true
 | _=>false
def ue (H:Hp) (v:SV):Option Nat:=qC v (λn=>ob (gL (H.get n)) λ_=>some n) none
def Fm (H:Hp) (v:SV):Option Nat:=qC v (λn=>ob (gD (H.get n)) λ_=>some n) none
def ME (n:Nat):RM SV:=λσ=>ob (gL (σ.hp.get n)) λxs=>List.rec (motive:=λ_=>Option (List (SV×SS))) none (λx r _=>List.rec (motive:=λ_=>Option (List (SV×SS))) (some [(x,{ σ with hp:=σ.hp.put n (.list []) })]) (λ_ _ _=>none) r) xs
def getD (H:Hp) (n:Nat) (k:SV):Option SV:=Ac k (λk=>ob (gD (H.get n)) λes=>some (iX (lk es k) (λv=>v) .none)) none
noncomputable def mq:Str := "append"
noncomputable def Qz:Str := "pop"
noncomputable def Q0:Str := "get"
def UP (lo:Lo) (ce:CE) (o:Expr) (name:Str) (e:Expr):RM SV:=cond (cH e) RM.bad (cond (name == mq) (RM.az (lo.E ce o) λov=>RM.az (RM.look λσ=>ue σ.hp ov) λn=>RM.az (lo.E ce e) λx=>RM.az (jM n x) λ_=>RM.ret .none)
 (cond (name == Q0) (RM.az (lo.E ce o) λov=>RM.az (RM.look λσ=>Fm σ.hp ov) λn=>RM.az (lo.E ce e) λk=>RM.look λσ=>getD σ.hp n k) RM.bad))
def UQ (lo:Lo) (ce:CE) (o:Expr) (name:Str):RM SV:=cond (name == Qz) (RM.az (lo.E ce o) λov=>RM.az (RM.look λσ=>ue σ.hp ov) λn=>ME n) RM.bad
def Fn (lo:Lo) (ce:CE) (o:Expr) (name:Str) (args:List Expr) (apos pos:Pos):RM SV:=cond (iP o&&apos.endLine == pos.line) (List.rec (motive:=λ_=>RM SV) (UQ lo ce o name) (λe r _=>List.rec (motive:=λ_=>RM SV) (UP lo ce o name e) (λ_ _ _=>RM.bad) r) args) RM.bad
section
variable {D:Ds} {n:Nat} {lo:Lo} {c:Cx} {ρ₀:Nm} {env:Env} {ce:CE} {K:Frag} {mg mb:Str→Option Value}
theorem Ja {o:Expr} {name:Str} (h:iP o=true):attributeBase o name env (eval o env)=eval o env:=by
 cases o<;>first | rfl | cases h
inductive Zh (c:Cx) (ρ:Nm) (σ:SS) (s:Shared) (v:Value) (m:Nat):Prop
 | mk (ad:Addr) (xs:List SV) (vs:List Value) (k:Nat) (ev:v=.ref ad) (hm:ρ m=some ad) (g:σ.hp.get m=some (.list xs)) (ho:s.heap.get? ad=some (bF vs k)) (hv:bX c.ν ρ xs vs):Zh c ρ σ s v m
inductive Zi (ρ:Nm) (σ:SS) (s:Shared) (v:Value) (m:Nat):Prop
 | mk (ad:Addr) (es:List (Nat×SV)) (es':List DictEntry) (k:Nat) (ev:v=.ref ad) (hm:ρ m=some ad) (g:σ.hp.get m=some (.dict es)) (ho:s.heap.get? ad=some (dictOf es' k)):Zi ρ σ s v m
theorem uf {σ:SS} {s:Shared} {ρ:Nm} {a:SV} {v:Value} {m:Nat} (S:c.SR ρ σ s) (e:ue σ.hp a=some m) (h:VR c.ν ρ a v):Zh c ρ σ s v m:=by
 revert e
 refine dG (p:=λq=>q=some m→Zh c ρ σ s v m) (λn ea e=>aS e λxs q e=>?_) λe=>nS e
 subst ea
 obtain rfl:=aD e
 obtain ⟨ad,hn,ev⟩:=h
 obtain ⟨vs,k,h1,h2⟩:=S.list (jG q) hn
 exact ⟨ad,xs,vs,k,ev,hn,jG q,h1,h2⟩
theorem Fo {σ:SS} {s:Shared} {ρ:Nm} {a:SV} {v:Value} {m:Nat} (S:c.SR ρ σ s) (e:Fm σ.hp a=some m) (h:VR c.ν ρ a v):Zi ρ σ s v m:=by
 revert e
 refine dG (p:=λq=>q=some m→Zi ρ σ s v m) (λn ea e=>aS e λxs q e=>?_) λe=>nS e
 subst ea
 obtain rfl:=aD e
 obtain ⟨ad,hn,ev⟩:=h
 obtain ⟨vs,k,h1,h2⟩:=S.dict (sJ q) hn
 exact ⟨ad,xs,vs,k,ev,hn,sJ q,h1⟩
theorem MF {e:Expr} {pos:Pos} (h:cH e=false):((backTo pos (starEach [e] env)).all (λx=>!x.1)&&(backToKw pos (keywordEach [] env)).all (λx=>x.1.isSome)&&decide (([e]:List Expr).length+([]:List Keyword).length+(if ([]:List Keyword).isEmpty then 0 else 1)<30))=true:=by
 rw [bT h]; rfl
theorem ug (ok:bR D n lo) (co:c.Of D) (rm:Rm c n) (eo:aG c ρ₀ ce env) {o e:Expr} {apos pos:Pos} (hb:attributeBase o mq env (eval o env)=eval o env) (h0:(apos.endLine == pos.line)=true) (he:cH e=false) :
 aJ c ρ₀ (RM.az (lo.E ce o) λov=>RM.az (RM.look λσ=>ue σ.hp ov) λn=>RM.az (lo.E ce e) λx=>RM.az (jM n x) λ_=>RM.ret .none) (eval (.Call (.Attribute o mq apos) [e] [] pos) env) (VR c.ν):=by
 have MG:backTo pos (starEach [e] env)=[(false,eval e env)]:=by rw [bT he]; rfl
 intro σ outs e' ρ s x S Q E hQ
 obtain ⟨l,hl,hg⟩:=RM.aO e'
 refine wpAny_Call_method hb (MF he) h0 F.plainAttrs_list F.slot_list_append F.type_list_append ?_
 refine ok.E c ρ₀ ce env o co rm eo σ l hl ρ s x S _ E λov σ1 ρ1 s1 vv hm x1 S1 r1 sm1=>?_
 obtain ⟨o1,ho1,uA⟩:=hg _ hm
 obtain ⟨l2,hl2,hg2⟩:=RM.aO ho1
 refine RM.i2 hl2 λm hm2 el=>?_
 obtain ⟨o2,ho2,hs2⟩:=hg2 (m,σ1) (el▸.head _)
 obtain ⟨ad,xs,vs,k,rfl,hmn,hq,hobj,hvs⟩:=uf S1 hm2 r1
 obtain ⟨l3,hl3,hg3⟩:=RM.aO ho2
 refine ⟨⟨_,hobj,rfl⟩,λa ha=>by cases ha; exact ⟨_,hobj,rfl⟩,?_⟩
 rw [MG]
 refine Calls.callWith_builtin rfl (Calls.evalArgs_plain (Calls.spliced_cons (ok.E c ρ1 ce env e co rm (eo.mono (x.trans x1)) σ1 l3 hl3 ρ1 s1 (.refl _) S1 _ E λy σ3 ρ3 s3 v3 hm3 x3 S3 r3 sm3=>Calls.spliced_nil ?_)))
 obtain ⟨o3,ho3,hs3⟩:=hg3 _ hm3
 obtain ⟨l4,hl4,hg4⟩:=RM.aO ho3
 refine nP (x3 _ _ hmn) r3 σ3 l4 hl4 ρ3 s3 (.refl _) S3 Q E λz σ4 ρ4 s4 v4 hm4 x4 S4 r4 sm4=>?_
 obtain ⟨o4,ho4,hs4⟩:=hg4 _ hm4
 exact hQ .none σ4 ρ4 s4 v4 (uA _ (hs2 _ (hs3 _ (hs4 _ (aD ho4▸.head _))))) ((x1.trans x3).trans x4) S4 r4 ((sm1.trans sm3).trans sm4)
theorem Fp (ok:bR D n lo) (co:c.Of D) (rm:Rm c n) (G:Gd K mg mb c.hG) (eo:aG c ρ₀ ce env) {o e:Expr} {apos pos:Pos} (hb:attributeBase o Q0 env (eval o env)=eval o env) (h0:(apos.endLine == pos.line)=true) (he:cH e=false) :
 aJ c ρ₀ (RM.az (lo.E ce o) λov=>RM.az (RM.look λσ=>Fm σ.hp ov) λn=>RM.az (lo.E ce e) λk=>RM.look λσ=>getD σ.hp n k) (eval (.Call (.Attribute o Q0 apos) [e] [] pos) env) (VR c.ν):=by
 have MG:backTo pos (starEach [e] env)=[(false,eval e env)]:=by rw [bT he]; rfl
 intro σ outs e' ρ s x S Q E hQ
 obtain ⟨l,hl,hg⟩:=RM.aO e'
 refine wpAny_Call_method hb (MF he) h0 F.plainAttrs_dict F.slot_dict_get F.type_dict_get ?_
 refine ok.E c ρ₀ ce env o co rm eo σ l hl ρ s x S _ E λov σ1 ρ1 s1 vv hm x1 S1 r1 sm1=>?_
 obtain ⟨o1,ho1,uA⟩:=hg _ hm
 obtain ⟨l2,hl2,hg2⟩:=RM.aO ho1
 refine RM.i2 hl2 λm hm2 el=>?_
 obtain ⟨o2,ho2,hs2⟩:=hg2 (m,σ1) (el▸.head _)
 obtain ⟨ad,es0,es',k,rfl,hmn,hq,hobj⟩:=Fo S1 hm2 r1
 obtain ⟨l3,hl3,hg3⟩:=RM.aO ho2
 refine ⟨⟨_,hobj,rfl⟩,λa ha=>by cases ha; exact ⟨_,hobj,rfl⟩,?_⟩
 rw [MG]
 refine wpAny_dict_get1 (knd:=strKind c.prog c.w) (S1.me G hq hmn) (ok.E c ρ1 ce env e co rm (eo.mono (x.trans x1)) σ1 l3 hl3 ρ1 s1 (.refl _) S1 _ E λy σ3 ρ3 s3 v3 hm3 x3 S3 r3 sm3=>?_)
 obtain ⟨o3,ho3,hs3⟩:=hg3 _ hm3
 refine RM.i2 ho3 λr hr eo3=>?_
 have hQ:∀ v t,VR c.ν ρ3 r v→Q v { s3 with toks:=t }:=λv t hv=>hQ r σ3 ρ3 _ v (uA _ (hs2 _ (hs3 _ (eo3▸.head _)))) (x1.trans x3) (S3.toks _) hv ((sm1.trans sm3).trans ⟨s3.heap,_,rfl⟩)
 revert hr
 refine fp (p:=λq=>q=some r→_) (λkk ey hr0=>aS hr0 λes q3 hr=>?_) λhr=>nS hr
 subst ey
 obtain ⟨t,rfl⟩:=r3
 obtain ⟨es3,k3,g1,g2⟩:=S3.dict (sJ q3) (x3 _ _ hmn)
 have hf:=g2.find kk
 refine ⟨dec kk,_,strKind_is c.prog c.w _ _,nH (prog:=c.prog) g1 g2,?_⟩
 rw [gH]
 cases w:lk es kk with
 | some sv =>
  rw [w] at hf hr
  obtain ⟨v,e1,e2⟩:=hf
  rw [e1]
  exact hQ v _ (aD hr▸e2)
 | none =>
  rw [w] at hf hr
  dsimp only at hf
  rw [hf]
  exact hQ .none _ (aD hr▸(rfl:Value.none=Value.none))
theorem Fq (ok:bR D n lo) (co:c.Of D) (rm:Rm c n) (eo:aG c ρ₀ ce env) {o:Expr} {apos pos:Pos} (hb:attributeBase o Qz env (eval o env)=eval o env) (h0:(apos.endLine == pos.line)=true) :
 aJ c ρ₀ (RM.az (lo.E ce o) λov=>RM.az (RM.look λσ=>ue σ.hp ov) λn=>ME n) (eval (.Call (.Attribute o Qz apos) [] [] pos) env) (VR c.ν):=by
 intro σ outs e' ρ s x S Q E hQ
 obtain ⟨l,hl,hg⟩:=RM.aO e'
 refine wpAny_Call_method hb rfl h0 F.plainAttrs_list F.slot_list_pop F.type_list_pop ?_
 refine ok.E c ρ₀ ce env o co rm eo σ l hl ρ s x S _ E λov σ1 ρ1 s1 vv hm x1 S1 r1 sm1=>?_
 obtain ⟨o1,ho1,uA⟩:=hg _ hm
 obtain ⟨l2,hl2,hg2⟩:=RM.aO ho1
 refine RM.i2 hl2 λm hm2 el=>?_
 obtain ⟨o2,ho2,hs2⟩:=hg2 (m,σ1) (el▸.head _)
 obtain ⟨ad,xs0,vs,k,rfl,hmn,hq0,hobj,hvs0⟩:=uf S1 hm2 r1
 refine ⟨⟨_,hobj,rfl⟩,λa ha=>by cases ha; exact ⟨_,hobj,rfl⟩,?_⟩
 refine aS ho2 λxs hq ho2=>?_
 replace hq:=jG hq
 have hvs:bX c.ν ρ1 xs vs:=by
  have w:=hq0.symm.trans hq
  have w:=aD (show some xs0=some xs from congrArg gL w)
  exact w▸hvs0
 cases xs with
 | nil=>exact nS ho2
 | cons y r =>
  cases r with
  | cons _ _=>exact nS ho2
  | nil =>
   obtain ⟨v,t,e1,hv,e2⟩:=hvs.eN
   rw [e1,e2.nF] at hobj
   refine P.pop_list (items:=#[v]) hobj rfl ?_ (by simp [sizeLine_eq])
   have U:=Heap.get?_update_self (Obj.mapSeq λxs=>xs.eraseIdxIfInBounds ((#[v]:Array Value).size - 1)) hobj rfl
   exact hQ y _ ρ1 _ v (uA _ (hs2 _ (aD ho2▸.head _))) x1 (SR.change (t:=s1.toks) (so':=.list []) S1 hq hmn U ⟨[],k+1,by simp [Obj.mapSeq,bF],trivial⟩ (Heap.SameBut.update ..)) hv (sm1.trans (.mk _ _ _))
theorem Fs (ok:bR D n lo) (co:c.Of D) (rm:Rm c n) (G:Gd K mg mb c.hG) (eo:aG c ρ₀ ce env) (o:Expr) (name:Str) (args:List Expr) (apos pos:Pos) :
 aJ c ρ₀ (Fn lo ce o name args apos pos) (eval (.Call (.Attribute o name apos) args [] pos) env) (VR c.ν):=by
 refine aJ.guard λh0=>dW h0 λhb h0=>?_
 replace hb:=Ja (env:=env) (name:=name) hb
 cases args with
 | nil =>
  refine aJ.guard λh1=>?_
  obtain rfl:=beq_iff_eq.mp h1
  exact Fq ok co rm eo hb h0
 | cons e r =>
  cases r with
  | cons _ _=>exact aJ.bad
  | nil =>
   refine aJ.yD λhe=>?_
   cases h1:name == mq with
   | true =>
    obtain rfl:=beq_iff_eq.mp h1
    exact ug ok co rm eo hb h0 he
   | false =>
    refine aJ.guard λh2=>?_
    obtain rfl:=beq_iff_eq.mp h2
    exact Fp ok co rm G eo hb h0 he
end
noncomputable def Ft:Str := "__debug__"
noncomputable def nX:Str := "__classdict__"
noncomputable def ye:Nat:=1759315279424080076639
noncomputable def i5:Nat:=7556217219641643337622556467039
theorem CT:enc Ft=ye:=by decide +kernel
theorem qK:enc nX=i5:=by decide +kernel
def Au (x:Str):Bool:=Bool.rec (motive:=λ_=>Bool) false (Bool.rec (motive:=λ_=>Bool) (Bool.rec (motive:=λ_=>Bool) true false (Nat.beq (enc x) i5)) false (Nat.beq (enc x) ye)) (fo x)
theorem Fu {x:Str} (h:Au x=true):fo x=true∧(x == Ft)=false∧(x == nX)=false:=by
 unfold Au at h
 cases q:fo x with
 | false=>rw [q] at h; cases h
 | true =>
  rw [q] at h
  cases q2:Nat.beq (enc x) ye with
  | true=>rw [q2] at h; cases h
  | false =>
   rw [q2] at h
   cases q3:Nat.beq (enc x) i5 with
   | true=>rw [q3] at h; cases h
   | false =>
    refine ⟨rfl,?_,?_⟩<;>rw [beq_eq_false_iff_ne]<;>intro z<;>subst z
    ·rw [CT,Nat.beq_refl] at q2; cases q2
    ·rw [qK,Nat.beq_refl] at q3; cases q3
noncomputable def kR:Expr→Bool
 | .ListComp _ _ _ _=>true
 | .SetComp _ _ _ _=>true
 | .DictComp _ _ _ _ _=>true
 | _=>false
def MH (g:Pg) (lo:Lo) (ce:CE) (e:Expr):RM SV:=match e with
 | .Constant k _ _=>RM.opt (yF k)
 | .Name x _=>cond (Au x) (Er g.glob ce (enc x)) RM.bad
 | .BinOp l op r _=>RM.az (lo.E ce l) λa=>RM.az (lo.E ce r) λb=>T2 op a b
 | .UnaryOp op x _=>RM.az (lo.E ce x) λa=>RM.opt (unS op a)
 | .IfExp t a b _=>RM.az (lo.B ce t) λr=>cond r (lo.E ce a) (lo.E ce b)
 | .BoolOp op vs _=>T9 lo ce op vs
 | .Compare l ops cs _=>RM.az (lo.E ce l) λlv=>yb (iH g.kt lo ce lv ops cs)
 | .Call f args kw p=>(match kw with
  | []=>(match f with
   | .Attribute o nm ap=>Fn lo ce o nm args ap p
   | f=>Aq g lo ce f args)
  | _=>RM.bad)
 | .Attribute v a _=>cond (iP v&&fo a) (RM.az (lo.E ce v) λo=>RM.look λσ=>attrS g.cls σ.hp o (enc a)) RM.bad
 | .Subscript v s _=>Ls lo ce v s
 | .List es _=>RM.az (qF lo ce es) λxs=>cond (fC xs) (RM.alloc (.list xs)) RM.bad
 | .Tuple es _ _=>RM.az (qF lo ce es) λxs=>cond (fC xs) (RM.alloc (.tup xs)) RM.bad
 | .Dict ks vs _=>Fj lo ce ks vs
 | .ListComp elt gens scope _=>eQ g.cls lo ce elt gens scope
 | _=>RM.bad
def MI (g:Pg) (lo:Lo) (ce:CE) (s:Stmt):RM FL:=match s with
 | .Return (some e) _=>RM.az (lo.E ce e) λv=>RM.ret (.ret v)
 | .Return none _=>RM.ret (.ret .none)
 | .Assign ts v _=>(match ts with
  | [t]=>Lz g.cls lo ce t v
  | _=>RM.bad)
 | .For t it body els _=>(match els with
  | []=>FQ g.cls lo ce t it body
  | _=>RM.bad)
 | .While t body els _=>(match els with
  | []=>jL lo ce t body 16
  | _=>RM.bad)
 | .If t a b _=>RM.az (lo.B ce t) λr=>cond r (bG lo ce a) (bG lo ce b)
 | .Expr e _=>cond (kR e) RM.bad (RM.az (lo.E ce e) λ_=>RM.ret .next)
 | .Pass _=>RM.ret .next
 | .Continue _=>RM.ret .cont
 | .Try body hs els fin _=>(match hs,els,fin with
  | _::_,[],[]=>bG lo ce body
  | _,_,_=>RM.bad)
 | _=>RM.bad
def Q1 (g:Pg) (k:Nat) (lo:Lo):Lo where
 E:=MH g lo
 B:=Lr g.kt lo
 S:=MI g lo
 C:=MB g k (λa=>RM.made λσ=>MC σ.hp a) lo
def lo0:Lo where
 E:=λ_ _=>RM.bad
 B:=λ_ _=>RM.bad
 S:=λ_ _=>RM.bad
 C:=λ_ _=>RM.bad
def ai (g:Pg) (n:Nat):Lo:=Nat.rec (motive:=λ_=>Lo) lo0 (λn ih=>Q1 g n ih) n
section
variable {D:Ds} {n:Nat} {lo:Lo} {c:Cx} {ρ₀:Nm} {env:Env} {ce:CE} {K:Frag} {mg mb:Str→Option Value} {g:Pg}
theorem CU (ok:bR D n lo) (co:c.Of D) (rm:Rm c n) (P:aY g K mg mb c.hG) (eo:aG c ρ₀ ce env) (e:Expr):aJ c ρ₀ (MH g lo ce e) (eval e env) (VR c.ν):=by
 have E:=λ{ρ:Nm} (x:Ext ρ₀ ρ) (e:Expr)=>ok.E c ρ ce env e co rm (eo.mono x)
 have B:=λ{ρ:Nm} (x:Ext ρ₀ ρ) (e:Expr)=>ok.B c ρ ce env e co rm (eo.mono x)
 have R:=Ext.refl ρ₀
 cases e<;>first | exact aJ.bad | skip
 ·exact Ql ok co rm _ eo
 ·rename_i l op r p
  refine a0.snd (((E R l).w).bind λρ₁ a va x1 r1=>((E x1 r).w).bind λρ₂ b vb x2 r2=>(I6 (r1.mono x2) r2).w) λQ E s h=>wpAny_BinOp h
 ·rename_i op x p
  exact a0.snd (((E R x).w).bind λρ₁ a va x1 r1=>(Qg r1).w) λQ E s h=>wpAny_UnaryOp h
 ·rename_i t a b p
  show aJ c ρ₀ (RM.az (lo.B ce t) λr=>cond r (lo.E ce a) (lo.E ce b)) _ _
  refine a0.snd (W:=λQ E s=>wpAny c.M c.A (isTrue t env (eval t env)) (λr s₂=>if r=true then wpAny c.M c.A (eval a env) Q E s₂ else wpAny c.M c.A (eval b env) Q E s₂) E s) (((B R t).w).bind
   (W':=λr Q E s₂=>if r=true then wpAny c.M c.A (eval a env) Q E s₂ else wpAny c.M c.A (eval b env) Q E s₂) λρ₁ r v x1 r1=>?_) λQ E s h=>IfExp_ h
  subst r1
  cases v with
  | true=>exact (E x1 a).w
  | false=>exact (E x1 b).w
 ·exact Fl ok co rm eo _ _
 ·exact se ok co rm P.G P.cls eo _ _ _
 ·rename_i l ops cs p
  show aJ c ρ₀ _ (eval l env >>= λlv=>compareChain p lv ops (markedEach ops cs (evalEach cs env))) _
  exact (E R l).bind λρ₁ x v x1 r1=>nW (chain_snd ok co rm P.G P.kt ops cs (eo.mono x1) r1)
 ·rename_i f args kw p
  cases kw with
  | cons _ _=>exact aJ.bad
  | nil =>
   cases f<;>first | exact CS ok co rm P eo _ args | skip
   exact Fs ok co rm P.G eo _ _ args _ p
 ·exact B3
 ·rename_i v a p
  show aJ c ρ₀ (cond (iP v&&fo a) _ _) _ _
  refine aJ.guard λhb=>?_
  rw [Bool.and_eq_true] at hb
  refine a0.snd (((E R v).w).bind λρ₁ o vo x1 r1=>?_) λQ E s h=>Attribute_any_ h (by cases v<;>first | rfl | cases hb.1)
  have:=FD (x:=enc a) (b:=true) P.G P.cls r1
  rw [dec_enc hb.2] at this
  exact this.w
 ·exact CI ok co rm eo _ _
 ·rename_i x p
  show aJ c ρ₀ (cond (Au x) _ _) _ _
  refine aJ.guard λhb=>?_
  obtain ⟨Zj,Zk,Zl⟩:=Fu hb
  have h:=uH (c:=c) (x:=enc x) (pos:=p) P.G P.glob eo
  rw [dec_enc Zj] at h
  exact h Zk Zl
 ·exact Ew ok co rm _ eo
 ·exact B1 ok co rm _ eo
theorem CV (ok:bR D n lo) (co:c.Of D) (rm:Rm c n) (P:aY g K mg mb c.hG) (eo:aG c ρ₀ ce env) (s:Stmt):aJ c ρ₀ (MI g lo ce s) (exec s env) (iG c.ν):=by
 have E:=λ{ρ:Nm} (x:Ext ρ₀ ρ) (e:Expr)=>ok.E c ρ ce env e co rm (eo.mono x)
 have B:=λ{ρ:Nm} (x:Ext ρ₀ ρ) (e:Expr)=>ok.B c ρ ce env e co rm (eo.mono x)
 have R:=Ext.refl ρ₀
 cases s<;>first | exact aJ.bad | skip
 ·rename_i v p
  cases v with
  | none=>exact aJ.known (a:=FL.ret .none) (v:=Flow.ret .none) (R:=iG c.ν) (λ_ _=>⟨.none,rfl,rfl⟩) λs Q E q=>wpAny_Return_none q
  | some e =>
   refine a0.snd (((E R e).w).bind (W':=λv (Q:Flow→Shared→Prop) E s=>Q (.ret v) s) λρ₁ x v x1 r1=>a0.ret (a:=FL.ret x) (v:=Flow.ret v) (R:=iG c.ν) λρ x=>⟨_,rfl,r1.mono x⟩) λQ E s h=>wpAny_Return_some h
 ·rename_i ts v p
  match ts with
  | []=>exact aJ.bad
  | [t]=>exact JU ok co rm P.G P.cls eo t v
  | _::_::_=>exact aJ.bad
 ·rename_i t it body els p
  cases els with
  | nil=>exact JP ok co rm P.G P.cls eo t it body
  | cons _ _=>exact aJ.bad
 ·rename_i t body els p
  cases els with
  | nil=>exact CL ok co rm eo t body 16
  | cons _ _=>exact aJ.bad
 ·rename_i t a b p
  show aJ c ρ₀ (RM.az (lo.B ce t) λr=>cond r (bG lo ce a) (bG lo ce b)) _ _
  refine a0.snd (W:=λQ E s=>wpAny c.M c.A (isTrue t env (eval t env)) (λr s₂=>if r=true then wpAny c.M c.A (execs a env) Q E s₂ else wpAny c.M c.A (execs b env) Q E s₂) E s) (((B R t).w).bind
   (W':=λr Q E s₂=>if r=true then wpAny c.M c.A (execs a env) Q E s₂ else wpAny c.M c.A (execs b env) Q E s₂) λρ₁ r v x1 r1=>?_) λQ E s h=>wpAny_If h
  subst r1
  cases v with
  | true=>exact (dJ ok co rm a (eo.mono x1)).w
  | false=>exact (dJ ok co rm b (eo.mono x1)).w
 ·rename_i body hs els fin p
  cases hs with
  | nil=>exact aJ.bad
  | cons h0 hs =>
   cases els with
   | cons _ _=>exact aJ.bad
   | nil =>
    cases fin with
    | cons _ _=>exact aJ.bad
    | nil =>
     intro σ outs e ρ s x S Q E' hQ
     refine wpAny_Try_except (dJ ok co rm body eo σ outs e ρ s x S _ _ λy σ' ρ' s' v hm x' S' r sm=>?_)
     have h:=hQ y σ' ρ' s' v hm x' S' r sm
     cases v with
     | next=>exact wpAny_execs_nil h
     | _=>exact h
 ·rename_i e p
  show aJ c ρ₀ (cond (kR e) _ _) _ _
  cases hc:kR e with
  | true=>exact aJ.bad
  | false =>
   refine a0.snd (((E R e).w).bind (W':=λv (Q:Flow→Shared→Prop) E s=>Q .next s) λρ₁ x v x1 r1=>a0.ret (a:=FL.next) (v:=Flow.next) (R:=iG c.ν) λρ x=>(rfl:Flow.next=Flow.next)) λQ E s h=>wpAny_Expr_any h ?_ ?_
   ·unfold interactive; rw [eo.kind]; rfl
   ·cases e<;>first | rfl | cases hc
 ·exact aJ.known (a:=FL.next) (v:=Flow.next) (R:=iG c.ν) (λ_ _=>(rfl:Flow.next=Flow.next)) λs Q E q=>wpAny_Pass q
 ·rename_i p
  refine aJ.known (a:=FL.cont) (v:=Flow.cont) (R:=iG c.ν) (λ_ _=>(rfl:Flow.cont=Flow.cont)) λs Q E q=>?_
  show wpAny c.M c.A (standAt p >>= λ_=>pure Flow.cont) Q E s
  exact aF (wpAny_standAt (aP q))
theorem cP (D:Ds) (P:aY g K mg mb D.hG) (hw:D.w.params=g.pr):∀ n,bR D n (ai g n)
 | 0=>⟨λ_ _ _ _ _ _ _ _=>aJ.bad,λ_ _ _ _ _ _ _ _=>aJ.bad,λ_ _ _ _ _ _ _ _=>aJ.bad,λ_ _ _ _ _ _ _ _ _ _=>aJ.bad⟩
 | n+1=>by
  have ih:=cP D P hw n
  refine ⟨λc ρ ce env e co rm eo=>?_,λc ρ ce env e co rm eo=>?_,λc ρ ce env e co rm eo=>?_,λc ρ f xs vf vs co rm hf hv=>?_⟩
  ·exact CU ih co (rm.le (Nat.le_succ n)) (co.hG▸P) eo e
  ·exact CG ih co (rm.le (Nat.le_succ n)) (co.hG▸P).G (co.hG▸P).kt eo e
  ·exact CV ih co (rm.le (Nat.le_succ n)) (co.hG▸P) eo e
  ·exact CR ih co (by rw [co.w]; exact hw) rm (co.hG▸P) (λρ a va h=>Fi rm.hh (co.hG▸P).G h) hf hv
end
theorem aZ {α:Type}:∀ {l:List (Nat×α)} {x:Nat} {v:α},lk l x=some v→(x,v)∈l
 | p::r,x,v,h=>by
  rw [aQ] at h
  by_cases q:p.1=x
  ·rw [if_pos q] at h
   cases h
   subst q
   exact .head _
  ·rw [if_neg q] at h
   exact .tail _ (aZ h)
noncomputable def a5 (ρ:Nm) (σ:SS) (s:Shared) (N:Nat→Prop):Addr→Obj→Prop:=λb o=>∃ n so,N n∧σ.hp.get n=some so∧ρ n=some b∧s.heap.get? b=some o
section
variable {P:Params} {ν ν' ν₁:Nat→Int} {hG:Heap} {fz:Addr→Obj→Prop} {L:Addr} {ρ ρ' ρ₁:Nm} {T σ σ₁:SS} {s s':Shared}
theorem OR.MJ {so:SO} {o:Obj} (h:OR P ν ρ so o):¬ d7 o:=by
 rintro ⟨hc,es,ep,hd⟩
 cases so with
 | tup _=>obtain ⟨vs,n,e,_⟩:=h; rw [e] at hc; cases hc
 | inst C d=>obtain ⟨a,_,e⟩:=h; rw [e] at hc; cases hc
 | dict es=>obtain ⟨es',e,_⟩:=h; rw [e] at hc; cases hc
 | list xs=>obtain ⟨us,m,e,_⟩:=h; rw [e] at hc; cases hc
 | rng n=>obtain ⟨a,b,c,e⟩:=h; rw [e] at hc; cases hc
 | ilist=>obtain ⟨us,m,e,_⟩:=h; rw [e] at hc; cases hc
 | cell v =>
  cases v with
  | none=>have h:o.data=Data.cell none:=h; rw [hd] at h; cases h
  | some v=>obtain ⟨u,e,_⟩:=h; rw [hd] at e; cases e
theorem SR.Q2 (S:SR P ν hG fz L ρ σ s) {N:Nat→Prop} {b:Addr} {o:Obj} (h:a5 ρ σ s N b o) (z:d7 o):False:=by
 obtain ⟨n,so,_,e1,e2,e3⟩:=h
 obtain ⟨a,o',g1,g2,g3,_⟩:=S.hp n so e1
 rw [e2] at g1; cases g1
 rw [e3] at g2; cases g2
 exact OR.MJ g3 z
theorem SR.Av (S:SR P ν hG fz L ρ σ s) {N:Nat→Prop} {b:Addr} {o o2:Obj} (h1:fz b o) (z:d7 o) (h:a5 ρ σ s N b o2):False:=by
 obtain ⟨n,so,_,e1,e2,e3⟩:=h
 obtain ⟨a,o',g1,g2,g3,g4,g5⟩:=S.hp n so e1
 rw [e2] at g1; cases g1
 rw [e3] at g2; cases g2
 cases hs:ag so with
 | false=>exact g5 hs _ h1
 | true =>
  obtain ⟨o3,k1,k2,_⟩:=S.fzk _ _ h1
  rw [e3] at k1; cases k1
  obtain ⟨_,es,ep,hd⟩:=z
  cases so with
  | tup xs=>obtain ⟨vs,n,e,_⟩:=g3; rw [e] at k2; have k2:Data.seq vs.toArray n=o.data:=k2; rw [hd] at k2; cases k2
  | _=>cases hs
theorem SR.focus (S:SR P ν hG fz L ρ σ s) {N:Nat→Prop} (f:Nat→Option Nat)
 (hT:∀ k so,T.hp.get k=some so→∃ m so',f k=some m∧¬ N m∧σ.hp.get m=some so'∧(ag so=false→ag so'=false)∧(∀ a,ρ m=some a→ρ' k=some a)∧∀ a o,ρ m=some a→s.heap.get? a=some o→OR P ν ρ so' o→OR P ν' ρ' so o)
 (hi:∀ k k' m so so',T.hp.get k=some so→T.hp.get k'=some so'→ag so=false→ag so'=false→f k=some m→f k'=some m→k=k')
 (hl:∀ x sv,lk T.loc x=some sv→∃ sv',lk σ.loc x=some sv'∧∀ v,VR ν ρ sv' v→VR ν' ρ' sv v) (hd:∀ k a,ρ' k=some a→k<T.nx) :
 SR P ν' hG (λb o=>fz b o∨a5 ρ σ s N b o) L ρ' T s:=by
 refine ⟨λb o e=>?_,λb o1 o2 e1 e2 z=>?_,S.gk,λb o e=>.inl (S.gd b o e),?_,λo e=>?_,λk so e=>?_,λk k' so so' a e1 e2 r1 r2 k1 k2=>?_,hd⟩
 ·rcases e with e | ⟨n,so,_,_,_,e⟩
  ·exact S.fzk b o e
  ·exact .of e
 ·rcases e1 with e1 | e1
  ·rcases e2 with e2 | e2
   ·exact S.fc _ _ _ e1 e2 z
   ·exact (S.Av e1 z e2).elim
  ·exact (S.Q2 e1 z).elim
 ·obtain ⟨m,hm,hv⟩:=S.loc
  refine ⟨m,hm,λx sv e=>?_⟩
  obtain ⟨sv',h1,h2⟩:=hl x sv e
  obtain ⟨v,h3,h4⟩:=hv x sv' h1
  exact ⟨v,h3,h2 v h4⟩
 ·rcases e with e | ⟨n,so,_,e1,e2,_⟩
  ·exact S.Lf _ e
  ·obtain ⟨a,o',g1,g2,g3,g4,g5⟩:=S.hp n so e1
   rw [e2] at g1; cases g1
   exact g4 rfl
 ·obtain ⟨m,so',h1,hn,h2,hsh,h3,h4⟩:=hT k so e
  obtain ⟨a,o,g1,g2,g3,g4,g5⟩:=S.hp m so' h2
  refine ⟨a,o,h3 _ g1,g2,h4 _ _ g1 g2 g3,g4,λhs o' q=>?_⟩
  rcases q with q | ⟨j,sj,hj,e1,e2,_⟩
  ·exact g5 (hsh hs) _ q
  ·have:=S.Tn h2 e1 g1 e2 (hsh hs)
   subst this
   exact hn hj
 ·obtain ⟨m,sm,h1,_,h2,hsh,h3,_⟩:=hT k so e1
  obtain ⟨m',sm',h1',_,h2',hsh',h3',_⟩:=hT k' so' e2
  obtain ⟨b,o,g1,_⟩:=S.hp m sm h2
  obtain ⟨b',o',g1',_⟩:=S.hp m' sm' h2'
  have z:=h3 _ g1
  have z':=h3' _ g1'
  rw [r1] at z; cases z
  rw [r2] at z'; cases z'
  have:=S.inj m m' _ _ a h2 h2' g1 g1' (hsh k1) (hsh' k2)
  subst this
  exact hi k k' m so so' e1 e2 k1 k2 h1 h1'
theorem SR.join (S:SR P ν hG fz L ρ σ s) {N:Nat→Prop} (S':SR P ν₁ hG (λb o=>fz b o∨a5 ρ σ s N b o) L ρ₁ σ₁ s') (g:Nat→Sum Nat Nat)
 (hT:∀ k so,T.hp.get k=some so→(∃ m so',g k=.inl m∧σ₁.hp.get m=some so'∧(ag so=false→ag so'=false)∧(∀ a,ρ₁ m=some a→ρ' k=some a)∧∀ o,OR P ν₁ ρ₁ so' o→OR P ν' ρ' so o) ∨
  (∃ m so',g k=.inr m∧N m∧σ.hp.get m=some so'∧(ag so=false→ag so'=false)∧(∀ a,ρ m=some a→ρ' k=some a)∧∀ o,OR P ν ρ so' o→OR P ν' ρ' so o))
 (hi:∀ k k' so so',T.hp.get k=some so→T.hp.get k'=some so'→ag so=false→ag so'=false→g k=g k'→k=k')
 (hl:∃ m,s'.heap.Ns L m∧∀ x sv,lk T.loc x=some sv→∃ v,m (dec x)=some v∧VR ν' ρ' sv v) (hd:∀ k a,ρ' k=some a→k<T.nx) :
 SR P ν' hG fz L ρ' T s':=by
 have side:∀ m sm,N m→σ.hp.get m=some sm→∃ a o,ρ m=some a∧s'.heap.get? a=some o∧OR P ν ρ sm o∧a≠L∧(ag sm=false→∀ o',¬ fz a o')∧a5 ρ σ s N a o:=by
  intro n so hn e
  obtain ⟨a,o,g1,g2,g3,g4,g5⟩:=S.hp n so e
  have as:a5 ρ σ s N a o:=⟨n,so,hn,e,g1,g2⟩
  exact ⟨a,o,g1,(S'.fzk a o (.inr as)).to (OR.MJ g3),g3,g4,g5,as⟩
 have apart:∀ m sm a,σ₁.hp.get m=some sm→ag sm=false→ρ₁ m=some a→∀ o,¬ a5 ρ σ s N a o:=by
  intro n so a e hs r o q
  obtain ⟨b,ob,g1,g2,g3,g4,g5⟩:=S'.hp n so e
  rw [r] at g1; cases g1
  exact g5 hs o (.inr q)
 refine ⟨λb o e=>S'.fzk b o (.inl e),S.fc,S'.gk,S.gd,hl,S.Lf,λk so e=>?_,λk k' so so' a e1 e2 r1 r2 k1 k2=>?_,hd⟩
 ·rcases hT k so e with ⟨m,sm,_,h2,hsh,h3,h4⟩ | ⟨m,sm,_,hn,h2,hsh,h3,h4⟩
  ·obtain ⟨a,o,g1,g2,g3,g4,g5⟩:=S'.hp m sm h2
   exact ⟨a,o,h3 _ g1,g2,h4 _ g3,g4,λhs o' q=>g5 (hsh hs) o' (.inl q)⟩
  ·obtain ⟨a,o,g1,g2,g3,g4,g5,_⟩:=side m sm hn h2
   exact ⟨a,o,h3 _ g1,g2,h4 _ g3,g4,λhs=>g5 (hsh hs)⟩
 ·rcases hT k so e1 with ⟨m,sm,w,h2,hsh,h3,_⟩ | ⟨m,sm,w,hn,h2,hsh,h3,_⟩<;>rcases hT k' so' e2 with ⟨m',sm',w',h2',hsh',h3',_⟩ | ⟨m',sm',w',hn',h2',hsh',h3',_⟩
  ·obtain ⟨b,o,g1,_⟩:=S'.hp m sm h2
   obtain ⟨b',o',g1',_⟩:=S'.hp m' sm' h2'
   have z:=h3 _ g1
   have z':=h3' _ g1'
   rw [r1] at z; cases z
   rw [r2] at z'; cases z'
   have:=S'.inj m m' _ _ a h2 h2' g1 g1' (hsh k1) (hsh' k2)
   subst this
   exact hi k k' so so' e1 e2 k1 k2 (w.trans w'.symm)
  ·obtain ⟨b,o,g1,_⟩:=S'.hp m sm h2
   obtain ⟨b',o',g1',_,_,_,_,g7⟩:=side m' sm' hn' h2'
   have z:=h3 _ g1
   have z':=h3' _ g1'
   rw [r1] at z; cases z
   rw [r2] at z'; cases z'
   exact absurd g7 (apart m sm a h2 (hsh k1) g1 _)
  ·obtain ⟨b,o,g1,_,_,_,_,g7⟩:=side m sm hn h2
   obtain ⟨b',o',g1',_⟩:=S'.hp m' sm' h2'
   have z:=h3 _ g1
   have z':=h3' _ g1'
   rw [r1] at z; cases z
   rw [r2] at z'; cases z'
   exact absurd g7 (apart m' sm' a h2' (hsh' k2) g1' _)
  ·obtain ⟨b,o,g1,_⟩:=side m sm hn h2
   obtain ⟨b',o',g1',_⟩:=side m' sm' hn' h2'
   have z:=h3 _ g1
   have z':=h3' _ g1'
   rw [r1] at z; cases z
   rw [r2] at z'; cases z'
   have:=S.inj m m' _ _ a h2 h2' g1 g1' (hsh k1) (hsh' k2)
   subst this
   exact hi k k' so so' e1 e2 k1 k2 (w.trans w'.symm)
end
end Mine
end
noncomputable section
open PySem PySem.W PyProof.Rows
namespace Mine
variable (P:Params)
noncomputable abbrev uB:Program:=PySem.Challenge.rw_xw0011_01.row.toRowW.1
noncomputable def hs (x:String) (n:Nat):Value:=.str (Str.ofString x) n
noncomputable def hE (k:String) (n:Nat) (v:Value):DictEntry:=⟨PyData.keyHash P (Str.ofString k),.str (Str.ofString k) n,v⟩
noncomputable def hO (c:Value) (d:Data):Obj:=⟨c,none,d,Array.mk []⟩
noncomputable def hT:Obj:=hO (.type "tuple") (.seq (Array.mk []))
noncomputable def hF:Obj:=hO .none (.fields (Array.mk []))
noncomputable def ht (l:List Value):Obj:=hO (.type "tuple") (.seq (Array.mk l))
noncomputable def hl (l:List Value):Obj:=hO .none (.fields (Array.mk l))
noncomputable def hv (c:Value) (l:List Value):Obj:=hO c (.fields (Array.mk l))
noncomputable def hnL (l:List String):Nat→List Value:=List.rec (motive:=λ_=>Nat→List Value) (λ_=>[]) (λx _ ih k=>hs x k::ih (Nat.add k 1)) l
noncomputable def hn (k:Nat) (l:List String):Obj:=ht (hnL l k)
noncomputable def hD (c:Value) (l:List DictEntry) (n:Nat):Obj:=hO c (.dict (Array.mk l) n)
noncomputable def hP (c:Value) (d:Option Addr) (l:List (Option Value)):Obj:=⟨c,d,.plain,Array.mk l⟩
noncomputable def hi (n:Nat):Value:=.int (Int.ofNat n) 0
noncomputable def qi (n q:String) (t l x7 x8 a:Nat) (b:Bool) (a2:Nat) (r:List Value) (t3:Nat):Obj:=hv (.type "code") (hs n t::hs q (t+1)::hs "/claim/cut.py" (t+2)::hi l::hi x7::hi 0::hi 0::hi x8::.ref a::.bool b::hi 181::.ref a2::.none::(r++[hi (t3 - 1),hi l,hs "/claim/cut.py" t3]))
noncomputable def hc (i:Nat) (n q:String) (t l x7 x8 t3:Nat):Obj:=qi n q t l x7 x8 (i - 5) true (i - 4) [.ref (i - 3),.ref (i - 2),.ref (i - 1)] t3
noncomputable def he (i:Nat) (n:String) (t l x7 x8:Nat):Obj:=qi n n t l x7 x8 (i - 3) true (i - 2) [.none,.none,.ref (i - 1)] (t+4)
noncomputable def hk (i:Nat) (n:String) (t l t3:Nat):Obj:=qi n n t l 0 0 (i - 2) false (i - 1) [.none,.none,.none] t3
noncomputable def hC (i:Nat) (n:String) (b m:List Value) (ns:Nat) (q:String) (hd:Bool) (sl:List String) (sub:List Value) (ab:Bool) (co:Option Bool) (de:Bool) (slots:List (Option Value)):Obj:=⟨.type "type",none,.cls ⟨Str.ofString n,b,m,ns,Str.ofString q,hd,sl.map Str.ofString,sub,ab,co,de⟩,Array.mk slots⟩
noncomputable def Tb (s:Stmt):List Stmt:=match s with
 | .FunctionDef _ _ b ..=>b
 | .ClassDef _ _ _ b ..=>b
 | _=>[]
noncomputable def Q3 (l:List Stmt) (p:List Nat):Option Stmt:=List.rec (motive:=λ_=>List Stmt→Option Stmt→Option Stmt) (λ_ s=>s) (λi _ ih l _=>match l[i]? with
 | some s=>ih (Tb s) (some s)
 | none=>none) p l none
noncomputable def Zm (q:String) (p:List Nat) (gl:Nat) (cl:List (Str×Addr)) (dV kV doc pm:Value) (an:Option Addr) (cd ct:Value) (bl:Nat):Data:=match Q3 uB.main.body p with
 | some (.FunctionDef n a b _ _ _ sc _ _ _)=>.func ⟨n,Str.ofString q,a,.stmts b,sc,gl,cl,dV,kV,doc,pm,an,cd,ct,bl⟩
 | _=>.plain
noncomputable def hp (q:String) (p:List Nat):Obj:=hO .none (Zm q p 0 [] .none .none .none .none none .none .none 0)
noncomputable def hf (q:String) (p:List Nat) (dV pm cd:Value):Obj:=hO (.type "function") (Zm q p 3 [] dV .none .none pm none cd .none 0)
noncomputable def hg (q:String) (p:List Nat) (gl:Nat) (cl:List (Str×Addr)) (dV kV doc pm:Value) (an:Option Addr) (cd ct:Value) (bl:Nat):Obj:=hO (.type "function") (Zm q p gl cl dV kV doc pm an cd ct bl)
noncomputable def hb0 (g3 g12:Obj) (t:List (Nat×Obj)):List (Nat×Obj):=(0,boot_o_0 P)::(1,boot_o_1 P)::(2,hD .none [hE P "type.__subclasses__.Exception.0" 214 (.int 31 0),hE P "type.__subclasses__.Exception.n" 215 (.int 1 0)] 2)::(3,g3)::(4,boot_o_4 P)::(5,boot_o_5 P)::(6,boot_o_6 P)::(7,boot_o_7 P)::(8,boot_o_8 P)::(9,boot_o_9 P)::(10,boot_o_10 P)::(11,hT)::(12,g12)::(13,hk 13 "<module>" 182 1 186)::(14,hP (.type "frame") none [(some (.ref 13)),(some (.ref 3)),(some (.ref 3)),none,(some (hs "__main__" 164)),none,(some (.ref 0))])::(15,ht [(.type "Exception")])::(16,hv (.type "builtin_function_or_method") [(.builtin "type.__prepare__"),(.type "type")])::(17,hD (.type "dict") [hE P "__module__" 196 (hs "adacore.errors" 187),hE P "__qualname__" 198 (hs "AdaError" 197),hE P "__firstlineno__" 200 (.int 2 199),hE P "__init__" 208 (.ref 28),hE P "__static_attributes__" 210 (.ref 29)] 5)::(18,hT)::(19,hl [(.int 4 0),(.int 4 0),(.ref 27)])::(20,hk 20 "AdaError" 191 2 195)::(21,hP (.type "frame") none [(some (.ref 20)),(some (.ref 3)),(some (.ref 17)),none,(some (hs "adacore.errors" 187)),none,(some (.ref 0))])::(22,hT)::(23,hF)::(24,hn 204 ["self","text"])::(25,hT)::(26,hp "AdaError.__init__" [1,0])::(27,hc 27 "__init__" "AdaError.__init__" 201 4 2 3 207)::(28,hf "AdaError.__init__" [1,0] .none (hs "adacore.errors" 187) (.ref 27))::(29,hn 209 ["text"])::(30,hD (.type "dict") [hE P "__module__" 196 (hs "adacore.errors" 187),hE P "__firstlineno__" 200 (.int 2 199),hE P "__init__" 208 (.ref 28),hE P "__static_attributes__" 210 (.ref 29),hE P "__weakref__" 212 (.ref 32),hE P "__doc__" 213 .none] 3)::(31,hC 31 "AdaError" [(.type "Exception")] [(.ref 31),(.type "Exception"),(.type "BaseException"),(.type "object")] 30 "AdaError" true [] [(.ref 51),(.ref 70)] false none false [(some (.ref 15)),none,(some (hs "AdaError" 189)),(some (hs "AdaError" 197)),(some (.builtin "Exception.__new__")),(some (.bool true))])::(32,hv (.type "getset_descriptor") [(hs "__weakref__" 211),(.ref 31),(.builtin "ExceptionGroup.__weakref__"),.none])::(33,hv (.type "super") [(.ref 31),(.ref 31),(.ref 31)])::(34,hv (.type "builtin_function_or_method") [(.builtin "object.__init_subclass__"),(.ref 31)])::(35,ht [(.ref 31)])::(36,hv (.type "builtin_function_or_method") [(.builtin "type.__prepare__"),(.type "type")])::(37,hD (.type "dict") [hE P "__module__" 225 (hs "adacore.errors" 187),hE P "__qualname__" 227 (hs "CheckFault" 226),hE P "__firstlineno__" 229 (.int 7 228),hE P "__init__" 238 (.ref 48),hE P "__static_attributes__" 240 (.ref 49)] 5)::(38,hT)::(39,hl [(.int 9 0),(.int 4 0),(.ref 47)])::t
noncomputable def Zj (g3 g12:Obj) (t:List (Nat×Obj)):List (Nat×Obj):=(40,hk 40 "CheckFault" 220 7 224)::(41,hP (.type "frame") none [(some (.ref 40)),(some (.ref 3)),(some (.ref 37)),none,(some (hs "adacore.errors" 187)),none,(some (.ref 0))])::(42,hT)::(43,hF)::(44,hn 233 ["self","line","text"])::(45,hT)::(46,hp "CheckFault.__init__" [2,0])::(47,hc 47 "__init__" "CheckFault.__init__" 230 9 3 3 237)::(48,hf "CheckFault.__init__" [2,0] .none (hs "adacore.errors" 187) (.ref 47))::(49,hn 239 ["line"])::(50,hD (.type "dict") [hE P "__module__" 225 (hs "adacore.errors" 187),hE P "__firstlineno__" 229 (.int 7 228),hE P "__init__" 238 (.ref 48),hE P "__static_attributes__" 240 (.ref 49),hE P "__doc__" 241 .none] 2)::(51,hC 51 "CheckFault" [(.ref 31)] [(.ref 51),(.ref 31),(.type "Exception"),(.type "BaseException"),(.type "object")] 50 "CheckFault" true [] [] false none false [(some (.ref 35)),none,(some (hs "CheckFault" 218)),(some (hs "CheckFault" 226)),(some (.builtin "Exception.__new__")),(some (.bool true))])::(52,hv (.type "super") [(.ref 51),(.ref 51),(.ref 51)])::(53,hv (.type "builtin_function_or_method") [(.builtin "object.__init_subclass__"),(.ref 51)])::(54,ht [(.ref 31)])::(55,hv (.type "builtin_function_or_method") [(.builtin "type.__prepare__"),(.type "type")])::(56,hD (.type "dict") [hE P "__module__" 251 (hs "adacore.errors" 187),hE P "__qualname__" 253 (hs "AdaRaise" 252),hE P "__firstlineno__" 255 (.int 12 254),hE P "__init__" 265 (.ref 67),hE P "__static_attributes__" 269 (.ref 68)] 5)::(57,hT)::(58,hl [(.int 14 0),(.int 4 0),(.ref 66)])::(59,hk 59 "AdaRaise" 246 12 250)::(60,hP (.type "frame") none [(some (.ref 59)),(some (.ref 3)),(some (.ref 56)),none,(some (hs "adacore.errors" 187)),none,(some (.ref 0))])::(61,hT)::(62,hF)::(63,hn 259 ["self","name","line","text"])::(64,hT)::(65,hp "AdaRaise.__init__" [3,0])::(66,hc 66 "__init__" "AdaRaise.__init__" 256 14 4 3 264)::(67,hf "AdaRaise.__init__" [3,0] .none (hs "adacore.errors" 187) (.ref 66))::(68,hn 266 ["line","name","word"])::(69,hD (.type "dict") [hE P "__module__" 251 (hs "adacore.errors" 187),hE P "__firstlineno__" 255 (.int 12 254),hE P "__init__" 265 (.ref 67),hE P "__static_attributes__" 269 (.ref 68),hE P "__doc__" 270 .none] 2)::(70,hC 70 "AdaRaise" [(.ref 31)] [(.ref 70),(.ref 31),(.type "Exception"),(.type "BaseException"),(.type "object")] 69 "AdaRaise" true [] [] false none false [(some (.ref 54)),none,(some (hs "AdaRaise" 244)),(some (hs "AdaRaise" 252)),(some (.builtin "Exception.__new__")),(some (.bool true))])::(71,hv (.type "super") [(.ref 70),(.ref 70),(.ref 70)])::(72,hv (.type "builtin_function_or_method") [(.builtin "object.__init_subclass__"),(.ref 70)])::(73,hT)::(74,hv (.type "builtin_function_or_method") [(.builtin "type.__prepare__"),(.type "type")])::(75,hD (.type "dict") [hE P "__module__" 282 (hs "adacore.values" 273),hE P "__qualname__" 284 (hs "Unset" 283),hE P "__firstlineno__" 286 (.int 20 285),hE P "__init__" 293 (.ref 86),hE P "__static_attributes__" 295 (.ref 87)] 5)::(76,hT)::(77,hl [(.int 22 0),(.int 4 0),(.ref 85)])::(78,hk 78 "Unset" 277 20 281)::(79,hP (.type "frame") none [(some (.ref 78)),(some (.ref 3)),(some (.ref 75)),none,(some (hs "adacore.values" 273)),none,(some (.ref 0))])::t
noncomputable def Zk (g3 g12:Obj) (t:List (Nat×Obj)):List (Nat×Obj):=(80,hT)::(81,hF)::(82,hn 290 ["self"])::(83,hT)::(84,hp "Unset.__init__" [5,0])::(85,hc 85 "__init__" "Unset.__init__" 287 22 1 3 292)::(86,hf "Unset.__init__" [5,0] .none (hs "adacore.values" 273) (.ref 85))::(87,hn 294 ["text"])::(88,hD (.type "dict") [hE P "__module__" 282 (hs "adacore.values" 273),hE P "__firstlineno__" 286 (.int 20 285),hE P "__init__" 293 (.ref 86),hE P "__static_attributes__" 295 (.ref 87),hE P "__dict__" 297 (.ref 90),hE P "__weakref__" 299 (.ref 91),hE P "__doc__" 300 .none] 4)::(89,hC 89 "Unset" [(.type "object")] [(.ref 89),(.type "object")] 88 "Unset" true [] [] false none false [none,none,(some (hs "Unset" 275)),(some (hs "Unset" 283)),(some (.builtin "object.__new__")),(some (.bool true))])::(90,hv (.type "getset_descriptor") [(hs "__dict__" 296),(.ref 89),(.builtin "function.__dict__"),(.builtin "function.__dict__#set")])::(91,hv (.type "getset_descriptor") [(hs "__weakref__" 298),(.ref 89),(.builtin "ExceptionGroup.__weakref__"),.none])::(92,hv (.type "super") [(.ref 89),(.ref 89),(.ref 89)])::(93,hv (.type "builtin_function_or_method") [(.builtin "object.__init_subclass__"),(.ref 89)])::(94,hT)::(95,hv (.type "builtin_function_or_method") [(.builtin "type.__prepare__"),(.type "type")])::(96,hD (.type "dict") [hE P "__module__" 310 (hs "adacore.values" 273),hE P "__qualname__" 312 (hs "Cell" 311),hE P "__firstlineno__" 314 (.int 24 313),hE P "__init__" 323 (.ref 107),hE P "__static_attributes__" 327 (.ref 108)] 5)::(97,hT)::(98,hl [(.int 26 0),(.int 4 0),(.ref 106)])::(99,hk 99 "Cell" 305 24 309)::(100,hP (.type "frame") none [(some (.ref 99)),(some (.ref 3)),(some (.ref 96)),none,(some (hs "adacore.values" 273)),none,(some (.ref 0))])::(101,hT)::(102,hF)::(103,hn 318 ["self","value","number"])::(104,hT)::(105,hp "Cell.__init__" [6,0])::(106,hc 106 "__init__" "Cell.__init__" 315 26 3 3 322)::(107,hf "Cell.__init__" [6,0] .none (hs "adacore.values" 273) (.ref 106))::(108,hn 324 ["number","subtype","value"])::(109,hD (.type "dict") [hE P "__module__" 310 (hs "adacore.values" 273),hE P "__firstlineno__" 314 (.int 24 313),hE P "__init__" 323 (.ref 107),hE P "__static_attributes__" 327 (.ref 108),hE P "__dict__" 329 (.ref 111),hE P "__weakref__" 331 (.ref 112),hE P "__doc__" 332 .none] 4)::(110,hC 110 "Cell" [(.type "object")] [(.ref 110),(.type "object")] 109 "Cell" true [] [] false none false [none,none,(some (hs "Cell" 303)),(some (hs "Cell" 311)),(some (.builtin "object.__new__")),(some (.bool true))])::(111,hv (.type "getset_descriptor") [(hs "__dict__" 328),(.ref 110),(.builtin "function.__dict__"),(.builtin "function.__dict__#set")])::(112,hv (.type "getset_descriptor") [(hs "__weakref__" 330),(.ref 110),(.builtin "ExceptionGroup.__weakref__"),.none])::(113,hv (.type "super") [(.ref 110),(.ref 110),(.ref 110)])::(114,hv (.type "builtin_function_or_method") [(.builtin "object.__init_subclass__"),(.ref 110)])::(115,hT)::(116,hv (.type "builtin_function_or_method") [(.builtin "type.__prepare__"),(.type "type")])::(117,hD (.type "dict") [hE P "__module__" 342 (hs "adacore.values" 273),hE P "__qualname__" 344 (hs "ArrayValue" 343),hE P "__firstlineno__" 346 (.int 30 345),hE P "__init__" 355 (.ref 128),hE P "__static_attributes__" 358 (.ref 129)] 5)::(118,hT)::(119,hl [(.int 32 0),(.int 4 0),(.ref 127)])::t
noncomputable def Zl (g3 g12:Obj) (t:List (Nat×Obj)):List (Nat×Obj):=(120,hk 120 "ArrayValue" 337 30 341)::(121,hP (.type "frame") none [(some (.ref 120)),(some (.ref 3)),(some (.ref 117)),none,(some (hs "adacore.values" 273)),none,(some (.ref 0))])::(122,hT)::(123,hF)::(124,hn 350 ["self","bounds","items"])::(125,hT)::(126,hp "ArrayValue.__init__" [7,0])::(127,hc 127 "__init__" "ArrayValue.__init__" 347 32 3 3 354)::(128,hf "ArrayValue.__init__" [7,0] .none (hs "adacore.values" 273) (.ref 127))::(129,hn 356 ["bounds","items"])::(130,hD (.type "dict") [hE P "__module__" 342 (hs "adacore.values" 273),hE P "__firstlineno__" 346 (.int 30 345),hE P "__init__" 355 (.ref 128),hE P "__static_attributes__" 358 (.ref 129),hE P "__dict__" 360 (.ref 132),hE P "__weakref__" 362 (.ref 133),hE P "__doc__" 363 .none] 4)::(131,hC 131 "ArrayValue" [(.type "object")] [(.ref 131),(.type "object")] 130 "ArrayValue" true [] [] false none false [none,none,(some (hs "ArrayValue" 335)),(some (hs "ArrayValue" 343)),(some (.builtin "object.__new__")),(some (.bool true))])::(132,hv (.type "getset_descriptor") [(hs "__dict__" 359),(.ref 131),(.builtin "function.__dict__"),(.builtin "function.__dict__#set")])::(133,hv (.type "getset_descriptor") [(hs "__weakref__" 361),(.ref 131),(.builtin "ExceptionGroup.__weakref__"),.none])::(134,hv (.type "super") [(.ref 131),(.ref 131),(.ref 131)])::(135,hv (.type "builtin_function_or_method") [(.builtin "object.__init_subclass__"),(.ref 131)])::(136,hT)::(137,hv (.type "builtin_function_or_method") [(.builtin "type.__prepare__"),(.type "type")])::(138,hD (.type "dict") [hE P "__module__" 373 (hs "adacore.values" 273),hE P "__qualname__" 375 (hs "RecordValue" 374),hE P "__firstlineno__" 377 (.int 35 376),hE P "__init__" 386 (.ref 149),hE P "__static_attributes__" 389 (.ref 150)] 5)::(139,hT)::(140,hl [(.int 37 0),(.int 4 0),(.ref 148)])::(141,hk 141 "RecordValue" 368 35 372)::(142,hP (.type "frame") none [(some (.ref 141)),(some (.ref 3)),(some (.ref 138)),none,(some (hs "adacore.values" 273)),none,(some (.ref 0))])::(143,hT)::(144,hF)::(145,hn 381 ["self","t","fields"])::(146,hT)::(147,hp "RecordValue.__init__" [8,0])::(148,hc 148 "__init__" "RecordValue.__init__" 378 37 3 3 385)::(149,hf "RecordValue.__init__" [8,0] .none (hs "adacore.values" 273) (.ref 148))::(150,hn 387 ["fields","type"])::(151,hD (.type "dict") [hE P "__module__" 373 (hs "adacore.values" 273),hE P "__firstlineno__" 377 (.int 35 376),hE P "__init__" 386 (.ref 149),hE P "__static_attributes__" 389 (.ref 150),hE P "__dict__" 391 (.ref 153),hE P "__weakref__" 393 (.ref 154),hE P "__doc__" 394 .none] 4)::(152,hC 152 "RecordValue" [(.type "object")] [(.ref 152),(.type "object")] 151 "RecordValue" true [] [] false none false [none,none,(some (hs "RecordValue" 366)),(some (hs "RecordValue" 374)),(some (.builtin "object.__new__")),(some (.bool true))])::(153,hv (.type "getset_descriptor") [(hs "__dict__" 390),(.ref 152),(.builtin "function.__dict__"),(.builtin "function.__dict__#set")])::(154,hv (.type "getset_descriptor") [(hs "__weakref__" 392),(.ref 152),(.builtin "ExceptionGroup.__weakref__"),.none])::(155,hv (.type "super") [(.ref 152),(.ref 152),(.ref 152)])::(156,hv (.type "builtin_function_or_method") [(.builtin "object.__init_subclass__"),(.ref 152)])::(157,hT)::(158,hF)::(159,hn 400 ["value"])::t
noncomputable def hb4 (P:Params) (g3 g12:Obj) (t:List (Nat×Obj)):List (Nat×Obj):=(160,hT)::(161,hp "need_set" [9])::(162,hc 162 "need_set" "need_set" 397 40 1 3 402)::(163,hf "need_set" [9] .none (hs "adacore.values" 273) (.ref 162))::(164,hT)::(165,hF)::(166,hp "copy_value" [10])::(167,he 167 "copy_value" 404 44 1 3)::(168,hf "copy_value" [10] .none (hs "adacore.values" 273) (.ref 167))::(169,hT)::(170,hF)::(171,hn 413 ["old","fresh","at","fields","name"])::(172,hT)::(173,hp "kept_value" [11])::(174,hc 174 "kept_value" "kept_value" 410 53 2 3 419)::(175,hf "kept_value" [11] .none (hs "adacore.values" 273) (.ref 174))::(176,hT)::(177,hF)::(178,hp "lengths_of" [12])::(179,he 179 "lengths_of" 421 66 1 3)::(180,hf "lengths_of" [12] .none (hs "adacore.values" 273) (.ref 179))::(181,hT)::(182,hF)::(183,hn 430 ["place","low","high","count"])::(184,hT)::(185,hp "slice_items" [13])::(186,hc 186 "slice_items" "slice_items" 427 68 1 3 435)::(187,hf "slice_items" [13] .none (hs "adacore.values" 273) (.ref 186))::(188,hT)::(189,hF)::(190,hn 440 ["record","name"])::(191,hT)::(192,hp "fields_with" [14])::(193,hc 193 "fields_with" "fields_with" 437 72 2 3 443)::(194,hf "fields_with" [14] .none (hs "adacore.values" 273) (.ref 193))::(195,hT)::(196,hF)::(197,hp "read_place" [15])::(198,he 198 "read_place" 445 76 1 3)::(199,hf "read_place" [15] .none (hs "adacore.values" 273) (.ref 198))::t
noncomputable def ZD (P:Params) (g3 g12:Obj) (t:List (Nat×Obj)):List (Nat×Obj):=(200,hT)::(201,hF)::(202,hp "write_place" [16])::(203,he 203 "write_place" 451 87 2 3)::(204,hf "write_place" [16] .none (hs "adacore.values" 273) (.ref 203))::(205,hT)::(206,hF)::(207,hn 464 ["text"])::(208,hT)::(209,hp "raise_constraint" [19])::(210,hc 210 "raise_constraint" "raise_constraint" 461 104 1 3 466)::(211,hf "raise_constraint" [19] .none (hs "adacore.arrays" 457) (.ref 210))::(212,hT)::(213,hF)::(214,hn 471 ["low","high"])::(215,hT)::(216,hp "dim_length" [20])::(217,hc 217 "dim_length" "dim_length" 468 106 2 3 474)::(218,hf "dim_length" [20] .none (hs "adacore.arrays" 457) (.ref 217))::(219,hT)::(220,hF)::(221,hn 479 ["value","indexes","offset","place","low","high"])::(222,hT)::(223,hp "item_offset" [21])::(224,hc 224 "item_offset" "item_offset" 476 108 2 3 486)::(225,hf "item_offset" [21] .none (hs "adacore.arrays" 457) (.ref 224))::(226,hT)::(227,hF)::(228,hn 491 ["value","indexes"])::(229,hT)::(230,hp "item_place" [22])::(231,hc 231 "item_place" "item_place" 488 116 2 3 494)::(232,hf "item_place" [22] .none (hs "adacore.arrays" 457) (.ref 231))::(233,hT)::(234,hF)::(235,hn 499 ["value","low","high","first","last"])::(236,hT)::(237,hp "slice_place" [23])::(238,hc 238 "slice_place" "slice_place" 496 118 3 3 505)::(239,hf "slice_place" [23] .none (hs "adacore.arrays" 457) (.ref 238))::t
noncomputable def hb6 (g3 g12:Obj) (t:List (Nat×Obj)):List (Nat×Obj):=(240,hT)::(241,hF)::(242,hp "slice_value" [24])::(243,he 243 "slice_value" 507 125 3 3)::(244,hf "slice_value" [24] .none (hs "adacore.arrays" 457) (.ref 243))::(245,hT)::(246,hF)::(247,hp "check_lengths" [25])::(248,he 248 "check_lengths" 513 129 2 3)::(249,hf "check_lengths" [25] .none (hs "adacore.arrays" 457) (.ref 248))::(250,hT)::(251,hF)::(252,hp "slide_array" [26])::(253,he 253 "slide_array" 519 132 2 3)::(254,hf "slide_array" [26] .none (hs "adacore.arrays" 457) (.ref 253))::(255,hT)::(256,hF)::(257,hn 528 ["bounds","ranges","place","low","high","least","most"])::(258,hT)::(259,hp "check_index_ranges" [27])::(260,hc 260 "check_index_ranges" "check_index_ranges" 525 135 2 3 536)::(261,hf "check_index_ranges" [27] .none (hs "adacore.arrays" 457) (.ref 260))::(262,hn 540 ["enum","int","mod","fixed","universal"])::(263,hT)::(264,hv (.type "builtin_function_or_method") [(.builtin "type.__prepare__"),(.type "type")])::(265,hD (.type "dict") [hE P "__module__" 553 (hs "adacore.types" 538),hE P "__qualname__" 555 (hs "Type" 554),hE P "__firstlineno__" 557 (.int 143 556),hE P "__init__" 566 (.ref 276),hE P "__static_attributes__" 591 (.ref 277)] 5)::(266,hT)::(267,hl [(.int 145 0),(.int 4 0),(.ref 275)])::(268,hk 268 "Type" 548 143 552)::(269,hP (.type "frame") none [(some (.ref 268)),(some (.ref 3)),(some (.ref 265)),none,(some (hs "adacore.types" 538)),none,(some (.ref 0))])::(270,hT)::(271,hF)::(272,hn 561 ["self","kind","name"])::(273,hT)::(274,hp "Type.__init__" [30,0])::(275,hc 275 "__init__" "Type.__init__" 558 145 3 3 565)::(276,hf "Type.__init__" [30,0] .none (hs "adacore.types" 538) (.ref 275))::(277,hn 567 ["component","components","designated","discriminants","high","index","is_abstract","is_constant","is_constrained","is_late","is_limited","is_private","is_tagged","kind","literals","low","modulus","name","number","operations","parent","small","variant","wide"])::(278,hD (.type "dict") [hE P "__module__" 553 (hs "adacore.types" 538),hE P "__firstlineno__" 557 (.int 143 556),hE P "__init__" 566 (.ref 276),hE P "__static_attributes__" 591 (.ref 277),hE P "__dict__" 593 (.ref 280),hE P "__weakref__" 595 (.ref 281),hE P "__doc__" 596 .none] 4)::(279,hC 279 "Type" [(.type "object")] [(.ref 279),(.type "object")] 278 "Type" true [] [] false none false [none,none,(some (hs "Type" 546)),(some (hs "Type" 554)),(some (.builtin "object.__new__")),(some (.bool true))])::t
noncomputable def hb7 (g3 g12:Obj) (t:List (Nat×Obj)):List (Nat×Obj):=(280,hv (.type "getset_descriptor") [(hs "__dict__" 592),(.ref 279),(.builtin "function.__dict__"),(.builtin "function.__dict__#set")])::(281,hv (.type "getset_descriptor") [(hs "__weakref__" 594),(.ref 279),(.builtin "ExceptionGroup.__weakref__"),.none])::(282,hv (.type "super") [(.ref 279),(.ref 279),(.ref 279)])::(283,hv (.type "builtin_function_or_method") [(.builtin "object.__init_subclass__"),(.ref 279)])::(284,hT)::(285,hv (.type "builtin_function_or_method") [(.builtin "type.__prepare__"),(.type "type")])::(286,hD (.type "dict") [hE P "__module__" 606 (hs "adacore.types" 538),hE P "__qualname__" 608 (hs "Subtype" 607),hE P "__firstlineno__" 610 (.int 170 609),hE P "__init__" 619 (.ref 297),hE P "__static_attributes__" 622 (.ref 298)] 5)::(287,hT)::(288,hl [(.int 172 0),(.int 4 0),(.ref 296)])::(289,hk 289 "Subtype" 601 170 605)::(290,hP (.type "frame") none [(some (.ref 289)),(some (.ref 3)),(some (.ref 286)),none,(some (hs "adacore.types" 538)),none,(some (.ref 0))])::(291,hT)::(292,hF)::(293,hn 614 ["self","t","constraint"])::(294,hT)::(295,hp "Subtype.__init__" [31,0])::(296,hc 296 "__init__" "Subtype.__init__" 611 172 3 3 618)::(297,hf "Subtype.__init__" [31,0] .none (hs "adacore.types" 538) (.ref 296))::(298,hn 620 ["constraint","type"])::(299,hD (.type "dict") [hE P "__module__" 606 (hs "adacore.types" 538),hE P "__firstlineno__" 610 (.int 170 609),hE P "__init__" 619 (.ref 297),hE P "__static_attributes__" 622 (.ref 298),hE P "__dict__" 624 (.ref 301),hE P "__weakref__" 626 (.ref 302),hE P "__doc__" 627 .none] 4)::(300,hC 300 "Subtype" [(.type "object")] [(.ref 300),(.type "object")] 299 "Subtype" true [] [] false none false [none,none,(some (hs "Subtype" 599)),(some (hs "Subtype" 607)),(some (.builtin "object.__new__")),(some (.bool true))])::(301,hv (.type "getset_descriptor") [(hs "__dict__" 623),(.ref 300),(.builtin "function.__dict__"),(.builtin "function.__dict__#set")])::(302,hv (.type "getset_descriptor") [(hs "__weakref__" 625),(.ref 300),(.builtin "ExceptionGroup.__weakref__"),.none])::(303,hv (.type "super") [(.ref 300),(.ref 300),(.ref 300)])::(304,hv (.type "builtin_function_or_method") [(.builtin "object.__init_subclass__"),(.ref 300)])::(305,hT)::(306,hF)::(307,hn 633 ["width"])::(308,hT)::(309,hp "base_bounds" [32])::(310,hc 310 "base_bounds" "base_bounds" 630 175 1 3 635)::(311,hf "base_bounds" [32] .none (hs "adacore.types" 538) (.ref 310))::(312,hT)::(313,hF)::(314,hn 640 ["name","low","high","made"])::(315,hT)::(316,hp "int_type" [33])::(317,hc 317 "int_type" "int_type" 637 177 3 3 645)::(318,hf "int_type" [33] .none (hs "adacore.types" 538) (.ref 317))::(319,hT)::t
noncomputable def hb8 (P:Params) (g3 g12:Obj) (t:List (Nat×Obj)):List (Nat×Obj):=(320,hF)::(321,hn 650 ["name","index","component","is_constrained","made"])::(322,hT)::(323,hp "array_type" [34])::(324,hc 324 "array_type" "array_type" 647 182 4 3 656)::(325,hf "array_type" [34] .none (hs "adacore.types" 538) (.ref 324))::(326,hT)::(327,hF)::(328,hn 661 ["name","discriminants","components","variant","made"])::(329,hT)::(330,hp "record_type" [35])::(331,hc 331 "record_type" "record_type" 658 188 4 3 667)::(332,hf "record_type" [35] .none (hs "adacore.types" 538) (.ref 331))::(333,hT)::(334,hF)::(335,hn 672 ["t","number"])::(336,hT)::(337,hp "numbered" [36])::(338,hc 338 "numbered" "numbered" 669 195 2 3 675)::(339,hf "numbered" [36] .none (hs "adacore.types" 538) (.ref 338))::(340,hT)::(341,hF)::(342,hn 680 ["a","b"])::(343,hT)::(344,hp "same_type" [37])::(345,hc 345 "same_type" "same_type" 677 198 2 3 683)::(346,hf "same_type" [37] .none (hs "adacore.types" 538) (.ref 345))::(347,hT)::(348,hF)::(349,hn 688 ["t"])::(350,hT)::(351,hp "is_scalar" [38])::(352,hc 352 "is_scalar" "is_scalar" 685 200 1 3 690)::(353,hf "is_scalar" [38] .none (hs "adacore.types" 538) (.ref 352))::(354,hT)::(355,hF)::(356,hn 695 ["t"])::(357,hT)::(358,hp "is_numeric" [39])::(359,hc 359 "is_numeric" "is_numeric" 692 202 1 3 697)::t
noncomputable def hb9 (P:Params) (g3 g12:Obj) (t:List (Nat×Obj)):List (Nat×Obj):=(360,hf "is_numeric" [39] .none (hs "adacore.types" 538) (.ref 359))::(361,hT)::(362,hF)::(363,hn 702 ["width","low","high"])::(364,hT)::(365,hp "integer_type" [40])::(366,hc 366 "integer_type" "integer_type" 699 204 1 3 706)::(367,hf "integer_type" [40] .none (hs "adacore.types" 538) (.ref 366))::(368,hT)::(369,hF)::(370,hn 715 ["subtype","turns","behind"])::(371,hT)::(372,hp "full_subtype" [43])::(373,hc 373 "full_subtype" "full_subtype" 712 209 1 3 719)::(374,hf "full_subtype" [43] .none (hs "adacore.fulltypes" 708) (.ref 373))::(375,hT)::(376,hF)::(377,hn 724 ["t"])::(378,hT)::(379,hp "full_type" [44])::(380,hc 380 "full_type" "full_type" 721 218 1 3 726)::(381,hf "full_type" [44] .none (hs "adacore.fulltypes" 708) (.ref 380))::(382,hT)::(383,hF)::(384,hn 735 ["t","found","here"])::(385,hT)::(386,hp "type_line" [47])::(387,hc 387 "type_line" "type_line" 732 224 1 3 739)::(388,hf "type_line" [47] .none (hs "adacore.records" 728) (.ref 387))::(389,hT)::(390,hF)::(391,hn 744 ["choices","value","low","high"])::(392,hT)::(393,hp "covers_choice" [48])::(394,hc 394 "covers_choice" "covers_choice" 741 233 2 3 749)::(395,hf "covers_choice" [48] .none (hs "adacore.records" 728) (.ref 394))::(396,hT)::(397,hF)::(398,hn 754 ["variant","discs","value","alternative"])::(399,hT)::t
noncomputable def Zn (P:Params) (g3 g12:Obj) (t:List (Nat×Obj)):List (Nat×Obj):=(400,hp "chosen_alternative" [49])::(401,hc 401 "chosen_alternative" "chosen_alternative" 751 240 2 3 759)::(402,hf "chosen_alternative" [49] .none (hs "adacore.records" 728) (.ref 401))::(403,hT)::(404,hF)::(405,hn 764 ["variant","discs","found","here","alternative"])::(406,hT)::(407,hp "variant_parts" [50])::(408,hc 408 "variant_parts" "variant_parts" 761 246 2 3 770)::(409,hf "variant_parts" [50] .none (hs "adacore.records" 728) (.ref 408))::(410,hT)::(411,hF)::(412,hn 775 ["t"])::(413,hT)::(414,hp "ahead_of_variant" [51])::(415,hc 415 "ahead_of_variant" "ahead_of_variant" 772 254 1 3 777)::(416,hf "ahead_of_variant" [51] .none (hs "adacore.records" 728) (.ref 415))::(417,hT)::(418,hF)::(419,hn 782 ["t","discs","first"])::(420,hT)::(421,hp "present_parts" [52])::(422,hc 422 "present_parts" "present_parts" 779 260 2 3 786)::(423,hf "present_parts" [52] .none (hs "adacore.records" 728) (.ref 422))::(424,hT)::(425,hF)::(426,hp "variant_names" [53])::(427,he 427 "variant_names" 788 265 1 3)::(428,hf "variant_names" [53] .none (hs "adacore.records" 728) (.ref 427))::(429,hT)::(430,hF)::(431,hp "part_names" [54])::(432,he 432 "part_names" 794 276 1 3)::(433,hf "part_names" [54] .none (hs "adacore.records" 728) (.ref 432))::(434,hT)::(435,hF)::(436,hn 803 ["value","found","name","subtype","default"])::(437,hT)::(438,hp "discs_in" [55])::(439,hc 439 "discs_in" "discs_in" 800 279 1 3 809)::t
noncomputable def Zo (P:Params) (g3 g12:Obj) (t:List (Nat×Obj)):List (Nat×Obj):=(440,hf "discs_in" [55] .none (hs "adacore.records" 728) (.ref 439))::(441,hT)::(442,hF)::(443,hn 814 ["value","name"])::(444,hT)::(445,hp "check_field" [56])::(446,hc 446 "check_field" "check_field" 811 284 2 3 817)::(447,hf "check_field" [56] .none (hs "adacore.records" 728) (.ref 446))::(448,hT)::(449,hF)::(450,hn 822 ["value","name"])::(451,hT)::(452,hp "field_place" [57])::(453,hc 453 "field_place" "field_place" 819 287 2 3 825)::(454,hf "field_place" [57] .none (hs "adacore.records" 728) (.ref 453))::(455,hT)::(456,hF)::(457,hn 830 ["value","constraint","name","due"])::(458,hT)::(459,hp "check_discs" [58])::(460,hc 460 "check_discs" "check_discs" 827 290 2 3 835)::(461,hf "check_discs" [58] .none (hs "adacore.records" 728) (.ref 460))::(462,hT)::(463,hF)::(464,hp "same_discs" [59])::(465,he 465 "same_discs" 837 294 2 3)::(466,hf "same_discs" [59] .none (hs "adacore.records" 728) (.ref 465))::(467,hT)::(468,hF)::(469,hn 846 ["target","source","is_fixed","fresh","own","name"])::(470,hT)::(471,hp "assign_record" [60])::(472,hc 472 "assign_record" "assign_record" 843 298 3 3 853)::(473,hf "assign_record" [60] .none (hs "adacore.records" 728) (.ref 472))::(474,hT)::(475,hF)::(476,hn 858 ["value","t","discs","fields","name","subtype","default"])::(477,hT)::(478,hp "ancestor_view" [61])::(479,hc 479 "ancestor_view" "ancestor_view" 855 307 2 3 866)::t
noncomputable def Zp (P:Params) (g3 g12:Obj) (t:List (Nat×Obj)):List (Nat×Obj):=(480,hf "ancestor_view" [61] .none (hs "adacore.records" 728) (.ref 479))::(481,hT)::(482,hF)::(483,hn 871 ["t","ancestor"])::(484,hT)::(485,hp "is_in_line" [62])::(486,hc 486 "is_in_line" "is_in_line" 868 315 2 3 874)::(487,hf "is_in_line" [62] .none (hs "adacore.records" 728) (.ref 486))::(488,hT)::(489,hF)::(490,hn 879 ["t","value"])::(491,hT)::(492,hp "own_part" [63])::(493,hc 493 "own_part" "own_part" 876 317 2 3 882)::(494,hf "own_part" [63] .none (hs "adacore.records" 728) (.ref 493))::(495,hT)::(496,hF)::(497,hn 887 ["t","old","value"])::(498,hT)::(499,hp "assigned_part" [64])::(500,hc 500 "assigned_part" "assigned_part" 884 321 3 3 891)::(501,hf "assigned_part" [64] .none (hs "adacore.records" 728) (.ref 500))::(502,hT)::(503,hF)::(504,hn 898 ["text"])::(505,hT)::(506,hp "refuse" [66])::(507,hc 507 "refuse" "refuse" 895 326 1 3 900)::(508,hf "refuse" [66] .none (hs "adacore.scalars" 893) (.ref 507))::(509,hT)::(510,hF)::(511,hn 905 ["subtype"])::(512,hT)::(513,hp "bounds_of" [67])::(514,hc 514 "bounds_of" "bounds_of" 902 328 1 3 907)::(515,hf "bounds_of" [67] .none (hs "adacore.scalars" 893) (.ref 514))::(516,hT)::(517,hF)::(518,hn 912 ["value","low","high"])::(519,hT)::t
noncomputable def Zq (P:Params) (g3 g12:Obj) (t:List (Nat×Obj)):List (Nat×Obj):=(520,hp "in_bounds" [68])::(521,hc 521 "in_bounds" "in_bounds" 909 332 3 3 916)::(522,hf "in_bounds" [68] .none (hs "adacore.scalars" 893) (.ref 521))::(523,hT)::(524,hF)::(525,hn 921 ["subtype","value","low","high"])::(526,hT)::(527,hp "is_member" [69])::(528,hc 528 "is_member" "is_member" 918 334 2 3 926)::(529,hf "is_member" [69] .none (hs "adacore.scalars" 893) (.ref 528))::(530,hT)::(531,hF)::(532,hn 931 ["subtype","value"])::(533,hT)::(534,hp "check_range" [70])::(535,hc 535 "check_range" "check_range" 928 337 2 3 934)::(536,hf "check_range" [70] .none (hs "adacore.scalars" 893) (.ref 535))::(537,hT)::(538,hF)::(539,hn 939 ["t","value"])::(540,hT)::(541,hp "check_base" [71])::(542,hc 542 "check_base" "check_base" 936 341 2 3 942)::(543,hf "check_base" [71] .none (hs "adacore.scalars" 893) (.ref 542))::(544,hT)::(545,hF)::(546,hn 947 ["num","den","q"])::(547,hT)::(548,hp "rounded_quotient" [72])::(549,hc 549 "rounded_quotient" "rounded_quotient" 944 345 2 3 951)::(550,hf "rounded_quotient" [72] .none (hs "adacore.scalars" 893) (.ref 549))::(551,hT)::(552,hF)::(553,hn 956 ["num","den","q"])::(554,hT)::(555,hp "cut_toward_zero" [73])::(556,hc 556 "cut_toward_zero" "cut_toward_zero" 953 350 2 3 960)::(557,hf "cut_toward_zero" [73] .none (hs "adacore.scalars" 893) (.ref 556))::(558,hT)::(559,hF)::t
noncomputable def Zr (P:Params) (g3 g12:Obj) (t:List (Nat×Obj)):List (Nat×Obj):=(560,hn 965 ["t"])::(561,hT)::(562,hp "small_of" [74])::(563,hc 563 "small_of" "small_of" 962 355 1 3 967)::(564,hf "small_of" [74] .none (hs "adacore.scalars" 893) (.ref 563))::(565,hT)::(566,hF)::(567,hn 972 ["target","source","value","num","den"])::(568,hT)::(569,hp "converted" [75])::(570,hc 570 "converted" "converted" 969 359 3 3 978)::(571,hf "converted" [75] .none (hs "adacore.scalars" 893) (.ref 570))::(572,hT)::(573,hF)::(574,hn 983 ["subtype","source","value"])::(575,hT)::(576,hp "convert_to" [76])::(577,hc 577 "convert_to" "convert_to" 980 365 3 3 987)::(578,hf "convert_to" [76] .none (hs "adacore.scalars" 893) (.ref 577))::(579,hT)::(580,hF)::(581,hn 994 ["t"])::(582,hT)::(583,hp "line_head" [78])::(584,hc 584 "line_head" "line_head" 991 368 1 3 996)::(585,hf "line_head" [78] .none (hs "adacore.nodevalues" 989) (.ref 584))::(586,hT)::(587,hF)::(588,hn 1001 ["value","t"])::(589,hT)::(590,hp "check_line" [79])::(591,hc 591 "check_line" "check_line" 998 370 2 3 1004)::(592,hf "check_line" [79] .none (hs "adacore.nodevalues" 989) (.ref 591))::(593,hT)::(594,hF)::(595,hp "index_ranges" [80])::(596,he 596 "index_ranges" 1006 373 1 3)::(597,hf "index_ranges" [80] .none (hs "adacore.nodevalues" 989) (.ref 596))::(598,hT)::(599,hF)::t
noncomputable def Zs (P:Params) (g3 g12:Obj) (t:List (Nat×Obj)):List (Nat×Obj):=(600,hn 1015 ["subtype"])::(601,hT)::(602,hp "fixed_bounds" [81])::(603,hc 603 "fixed_bounds" "fixed_bounds" 1012 375 1 3 1017)::(604,hf "fixed_bounds" [81] .none (hs "adacore.nodevalues" 989) (.ref 603))::(605,hT)::(606,hF)::(607,hn 1022 ["subtype","value","bounds"])::(608,hT)::(609,hp "array_fitted" [82])::(610,hc 610 "array_fitted" "array_fitted" 1019 382 2 3 1026)::(611,hf "array_fitted" [82] .none (hs "adacore.nodevalues" 989) (.ref 610))::(612,hT)::(613,hF)::(614,hn 1031 ["subtype","value","found"])::(615,hT)::(616,hp "record_fitted" [83])::(617,hc 617 "record_fitted" "record_fitted" 1028 388 2 3 1035)::(618,hf "record_fitted" [83] .none (hs "adacore.nodevalues" 989) (.ref 617))::(619,hT)::(620,hF)::(621,hn 1040 ["subtype","value","t"])::(622,hT)::(623,hp "fit_value" [84])::(624,hc 624 "fit_value" "fit_value" 1037 395 2 3 1044)::(625,hf "fit_value" [84] .none (hs "adacore.nodevalues" 989) (.ref 624))::(626,hT)::(627,hF)::(628,hn 1049 ["subtype","value","t","found"])::(629,hT)::(630,hp "record_converted" [85])::(631,hc 631 "record_converted" "record_converted" 1046 405 2 3 1054)::(632,hf "record_converted" [85] .none (hs "adacore.nodevalues" 989) (.ref 631))::(633,hT)::(634,hF)::(635,hn 1059 ["subtype","ratio","t","found"])::(636,hT)::(637,hp "real_converted" [86])::(638,hc 638 "real_converted" "real_converted" 1056 416 2 3 1064)::(639,hf "real_converted" [86] .none (hs "adacore.nodevalues" 989) (.ref 638))::t
noncomputable def Zt (P:Params) (g3 g12:Obj) (t:List (Nat×Obj)):List (Nat×Obj):=(640,hT)::(641,hF)::(642,hn 1069 ["t","value","place","low","high"])::(643,hT)::(644,hp "check_bases" [87])::(645,hc 645 "check_bases" "check_bases" 1066 423 2 3 1075)::(646,hf "check_bases" [87] .none (hs "adacore.nodevalues" 989) (.ref 645))::(647,hT)::(648,hF)::(649,hn 1080 ["subtype","source","value","t"])::(650,hT)::(651,hp "conv_value" [88])::(652,hc 652 "conv_value" "conv_value" 1077 428 3 3 1085)::(653,hf "conv_value" [88] .none (hs "adacore.nodevalues" 989) (.ref 652))::(654,hT)::(655,hF)::(656,hp "is_mutable" [90])::(657,he 657 "is_mutable" 1089 444 1 3)::(658,hf "is_mutable" [90] .none (hs "adacore.runplaces" 1087) (.ref 657))::(659,hT)::(660,hF)::(661,hn 1098 ["run","place","subtype","value"])::(662,hT)::(663,hp "store_into" [91])::(664,hc 664 "store_into" "store_into" 1095 451 4 3 1103)::(665,hf "store_into" [91] .none (hs "adacore.runplaces" 1087) (.ref 664))::(666,hT)::(667,hF)::(668,hn 1108 ["place","subtype","value","is_row","old"])::(669,hT)::(670,hp "store_checked" [92])::(671,hc 671 "store_checked" "store_checked" 1105 455 3 3 1114)::(672,hf "store_checked" [92] .none (hs "adacore.runplaces" 1087) (.ref 671))::(673,hT)::(674,hF)::(675,hn 1121 ["whole","few","pair","row","parts","box","two"])::(676,hT)::(677,hp "_law_kept" [94])::(678,hc 678 "_law_kept" "_law_kept" 1118 471 0 3 1129)::(679,hf "_law_kept" [94] .none (hs "law_xw0011_01" 1116) (.ref 678))::t
noncomputable def Zu (P:Params) (g3 g12:Obj) (t:List (Nat×Obj)):List (Nat×Obj):=(680,hT)::(681,hF)::(682,hn 1134 ["tape","many"])::(683,hT)::(684,hp "_law_next" [95])::(685,hc 685 "_law_next" "_law_next" 1131 480 2 3 1137)::(686,hf "_law_next" [95] .none (hs "law_xw0011_01" 1116) (.ref 685))::(687,hT)::(688,hF)::(689,hn 1142 ["kept","numbers"])::(690,hT)::(691,hp "_law_pair_of" [96])::(692,hc 692 "_law_pair_of" "_law_pair_of" 1139 485 2 3 1145)::(693,hf "_law_pair_of" [96] .none (hs "law_xw0011_01" 1116) (.ref 692))::(694,hT)::(695,hF)::(696,hp "_law_box_of" [97])::(697,he 697 "_law_box_of" 1147 487 2 3)::(698,hf "_law_box_of" [97] .none (hs "law_xw0011_01" 1116) (.ref 697))::(699,hT)::(700,hF)::(701,hp "_law_flat" [98])::(702,he 702 "_law_flat" 1153 490 1 3)::(703,hf "_law_flat" [98] .none (hs "law_xw0011_01" 1116) (.ref 702))::(704,hT)::(705,hF)::(706,hn 1162 ["tape","sort","path"])::(707,hT)::(708,hp "_law_path" [99])::(709,hc 709 "_law_path" "_law_path" 1159 496 2 3 1166)::(710,hf "_law_path" [99] .none (hs "law_xw0011_01" 1116) (.ref 709))::(711,hT)::(712,hF)::(713,hn 1171 ["path","begin","count","part"])::(714,hT)::(715,hp "_law_span" [100])::(716,hc 716 "_law_span" "_law_span" 1168 509 1 3 1176)::(717,hf "_law_span" [100] .none (hs "law_xw0011_01" 1116) (.ref 716))::(718,hT)::(719,hF)::t
noncomputable def Zv (P:Params) (g3 g12:Obj) (t:List (Nat×Obj)):List (Nat×Obj):=(720,hn 1181 ["cells","path","place","part","here"])::(721,hT)::(722,hp "_law_place" [101])::(723,hc 723 "_law_place" "_law_place" 1178 520 2 3 1187)::(724,hf "_law_place" [101] .none (hs "law_xw0011_01" 1116) (.ref 723))::(725,hT)::(726,hF)::(727,hn 1192 ["place","subtype","value","fault"])::(728,hT)::(729,hp "_law_stored" [102])::(730,hc 730 "_law_stored" "_law_stored" 1189 526 3 3 1197)::(731,hf "_law_stored" [102] .none (hs "law_xw0011_01" 1116) (.ref 730))::(732,hT)::(733,hF)::(734,hn 1202 ["own","path","shift","numbers","begin","row"])::(735,hT)::(736,hp "_law_put" [103])::(737,hc 737 "_law_put" "_law_put" 1199 532 4 3 1209)::(738,hf "_law_put" [103] .none (hs "law_xw0011_01" 1116) (.ref 737))::(739,hT)::(740,hF)::(741,hn 1214 ["tape","cells","own","goal","source","low","first","value","begin","numbers","place"])::(742,hT)::(743,hp "_law_cut" [104])::(744,hc 744 "_law_cut" "_law_cut" 1211 536 3 3 1226)::(745,hf "_law_cut" [104] .none (hs "law_xw0011_01" 1116) (.ref 744))::(746,hT)::(747,hF)::(748,hp "_law_deed" [105])::(749,he 749 "_law_deed" 1228 545 5 3)::(750,hf "_law_deed" [105] .none (hs "law_xw0011_01" 1116) (.ref 749))::(751,hT)::(752,hF)::(753,hn 1237 ["own","names","sort","path","place","begin","count"])::(754,hT)::(755,hp "_law_reads_right" [106])::(756,hc 756 "_law_reads_right" "_law_reads_right" 1234 567 2 3 1245)::(757,hf "_law_reads_right" [106] .none (hs "law_xw0011_01" 1116) (.ref 756))::(758,hT)::(759,hF)::t
noncomputable def Zw (P:Params) (g3 g12:Obj) (t:List (Nat×Obj)):List (Nat×Obj):=(760,hn 1250 ["place","here"])::(761,hT)::(762,hp "_law_down" [107])::(763,hc 763 "_law_down" "_law_down" 1247 573 1 3 1253)::(764,hf "_law_down" [107] .none (hs "law_xw0011_01" 1116) (.ref 763))::(765,hT)::(766,hF)::(767,hp "law" [108])::(768,he 768 "law" 1255 582 1 3)::(769,hf "law" [108] .none (hs "law_xw0011_01" 1116) (.ref 768))::t
noncomputable def hL (g3 g12:Obj):List (Nat×Obj):=hb0 P g3 g12 (Zj P g3 g12 (Zk P g3 g12 (Zl P g3 g12 (hb4 P g3 g12 (ZD P g3 g12 (hb6 P g3 g12 (hb7 P g3 g12 (hb8 P g3 g12 (hb9 P g3 g12 (Zn P g3 g12 (Zo P g3 g12 (Zp P g3 g12 (Zq P g3 g12 (Zr P g3 g12 (Zs P g3 g12 (Zt P g3 g12 (Zu P g3 g12 (Zv P g3 g12 (Zw P g3 g12 ([]))))))))))))))))))))
noncomputable def hmN:List (String×Nat×Value):=[("AdaError",217,(.ref 31)),("CheckFault",243,(.ref 51)),("AdaRaise",272,(.ref 70)),("Unset",302,(.ref 89)),("Cell",334,(.ref 110)),("ArrayValue",365,(.ref 131)),("RecordValue",396,(.ref 152)),("need_set",403,(.ref 163)),("copy_value",409,(.ref 168)),("kept_value",420,(.ref 175)),("lengths_of",426,(.ref 180)),("slice_items",436,(.ref 187)),("fields_with",444,(.ref 194)),("read_place",450,(.ref 199)),("write_place",456,(.ref 204)),("OTHERS",460,(hs "others" 459)),("raise_constraint",467,(.ref 211)),("dim_length",475,(.ref 218)),("item_offset",487,(.ref 225)),("item_place",495,(.ref 232)),("slice_place",506,(.ref 239)),("slice_value",512,(.ref 244)),("check_lengths",518,(.ref 249)),("slide_array",524,(.ref 254)),("check_index_ranges",537,(.ref 261)),("SCALAR_KINDS",545,(.ref 262)),("Type",598,(.ref 279)),("Subtype",629,(.ref 300)),("base_bounds",636,(.ref 311)),("int_type",646,(.ref 318)),("array_type",657,(.ref 325)),("record_type",668,(.ref 332)),("numbered",676,(.ref 339)),("same_type",684,(.ref 346)),("is_scalar",691,(.ref 353)),("is_numeric",698,(.ref 360)),("integer_type",707,(.ref 367)),("MOST_PRIVATE",711,(.int 41 710)),("full_subtype",720,(.ref 374)),("full_type",727,(.ref 381)),("MOST_LINE",731,(.int 40 730)),("type_line",740,(.ref 388)),("covers_choice",750,(.ref 395)),("chosen_alternative",760,(.ref 402)),("variant_parts",771,(.ref 409)),("ahead_of_variant",778,(.ref 416)),("present_parts",787,(.ref 423)),("variant_names",793,(.ref 428)),("part_names",799,(.ref 433)),("discs_in",810,(.ref 440)),("check_field",818,(.ref 447)),("field_place",826,(.ref 454)),("check_discs",836,(.ref 461)),("same_discs",842,(.ref 466)),("assign_record",854,(.ref 473)),("ancestor_view",867,(.ref 480)),("is_in_line",875,(.ref 487)),("own_part",883,(.ref 494)),("assigned_part",892,(.ref 501)),("refuse",901,(.ref 508)),("bounds_of",908,(.ref 515)),("in_bounds",917,(.ref 522)),("is_member",927,(.ref 529)),("check_range",935,(.ref 536)),("check_base",943,(.ref 543)),("rounded_quotient",952,(.ref 550)),("cut_toward_zero",961,(.ref 557)),("small_of",968,(.ref 564)),("converted",979,(.ref 571)),("convert_to",988,(.ref 578)),("line_head",997,(.ref 585)),("check_line",1005,(.ref 592)),("index_ranges",1011,(.ref 597)),("fixed_bounds",1018,(.ref 604)),("array_fitted",1027,(.ref 611)),("record_fitted",1036,(.ref 618)),("fit_value",1045,(.ref 625)),("record_converted",1055,(.ref 632)),("real_converted",1065,(.ref 639)),("check_bases",1076,(.ref 646)),("conv_value",1086,(.ref 653)),("is_mutable",1094,(.ref 658)),("store_into",1104,(.ref 665)),("store_checked",1115,(.ref 672)),("_law_kept",1130,(.ref 679)),("_law_next",1138,(.ref 686)),("_law_pair_of",1146,(.ref 693)),("_law_box_of",1152,(.ref 698)),("_law_flat",1158,(.ref 703)),("_law_path",1167,(.ref 710)),("_law_span",1177,(.ref 717)),("_law_place",1188,(.ref 724)),("_law_stored",1198,(.ref 731)),("_law_put",1210,(.ref 738)),("_law_cut",1227,(.ref 745)),("_law_deed",1233,(.ref 750)),("_law_reads_right",1246,(.ref 757)),("_law_down",1254,(.ref 764)),("law",1260,(.ref 769))]
noncomputable def hme:List DictEntry:=hmN.map λx=>hE P x.1 x.2.1 x.2.2
noncomputable def sg:List Str:=(hmN.take 98).map λx=>Str.ofString x.1
noncomputable def hmd (nm:Value) (j:Nat):Obj:=hD (.type "dict") (hE P "__name__" 165 nm::hE P "__doc__" 166 .none::hE P "__package__" 167 .none::hE P "__loader__" 168 (.builtin "__main__.__loader__#opaque")::hE P "__spec__" 169 .none::hE P "__annotations__" 170 (.ref 6)::hE P "__builtins__" 171 (.ref 4)::hE P "__file__" 173 (hs "/claim/cut.py" 172)::hE P "__cached__" 174 .none::(hme P).take j) (9+j)
noncomputable def hln:List (Nat×Nat):=[(2,20),(7,40),(12,59),(20,78),(24,99),(30,120),(35,141),(40,162),(44,167),(53,174),(66,179),(68,186),(72,193),(76,198),(87,203),(104,210),(106,217),(108,224),(116,231),(118,238),(125,243),(129,248),(132,253),(135,260),(143,268),(170,289),(175,310),(177,317),(182,324),(188,331),(195,338),(198,345),(200,352),(202,359),(204,366),(209,373),(218,380),(224,387),(233,394),(240,401),(246,408),(254,415),(260,422),(265,427),(276,432),(279,439),(284,446),(287,453),(290,460),(294,465),(298,472),(307,479),(315,486),(317,493),(321,500),(326,507),(328,514),(332,521),(334,528),(337,535),(341,542),(345,549),(350,556),(355,563),(359,570),(365,577),(368,584),(370,591),(373,596),(375,603),(382,610),(388,617),(395,624),(405,631),(416,638),(423,645),(428,652),(444,657),(451,664),(455,671),(471,678),(480,685),(485,692),(487,697),(490,702),(496,709),(509,716),(520,723),(526,730),(532,737),(536,744),(545,749),(567,756),(573,763),(582,768)]
noncomputable def ZE (i:Nat):Obj:=hl ((hln.take i).flatMap λp=>[hi p.1,hi 0,.ref p.2])
noncomputable def hpk (l:List (Nat×Obj)):Nat→Frag:=List.rec (motive:=λ_=>Nat→Frag) (λ_=>[]) (λp _ ih m=>Bool.rec (motive:=λ_=>Frag) (ih (Nat.div m 2)) (p::ih (Nat.div m 2)) (Nat.beq (Nat.mod m 2) 1)) l
noncomputable def hsp (l:List Obj):List Obj×List Obj:=List.rec (motive:=λ_=>List Obj×List Obj) ([],[]) (λx _ ih=>(x::ih.2,ih.1)) l
noncomputable def MG (f:Nat):List Obj→BT:=Nat.rec (motive:=λ_=>List Obj→BT) (λ_=>.nil) (λ_ ih l=>List.rec (motive:=λ_=>BT) .nil (λo t _=>.node o (ih (hsp t).1) (ih (hsp t).2)) l) f
noncomputable def hS (n:Nat) (nm:Value) (j i:Nat) (P:Params):BT:=MG 11 (((hL P (hmd P nm j) (ZE i)).take n).map Prod.snd)
noncomputable def ZF:BT:=MG 11 [boot_o_0 P,boot_o_1 P,boot_o_2 P,boot_o_3 P,boot_o_4 P,boot_o_5 P,boot_o_6 P,boot_o_7 P,boot_o_8 P,boot_o_9 P,boot_o_10 P,hT,hF,hk 13 "<module>" 182 1 186,hP (.type "frame") none [(some (.ref 13)),(some (.ref 3)),(some (.ref 3)),none,(some (hs "__main__" 164)),none,(some (.ref 0))]]
noncomputable def ZG:BT:=hS 770 (hs "law_xw0011_01" 1116) 99 95 P
noncomputable def MK:Nat:=0x33b76e76eddbb76edce76eddbb76e76eddbb76eddbb73b76eddbb76eddbb76eddbb76eddbb76e76eddbb739dbb76eddbb76eddbb76eddbb76edda7f6803fb4076e739dbb76eddb9ceddb9db9da7f6803fb401fda00fed007da04fb409fb40800c
@[irreducible] noncomputable def KK:Frag:=hpk (hL P (hmd P (hs "law_xw0011_01" 1116) 99) (ZE 95)) MK
noncomputable def hq:Program:=view uB [108]
noncomputable def qJ:Env:={ scope:=uB.main.scope,locals:=mainNs,globals:=mainNs,cells:=[],code:=.ref 13,frame:=some 14 }
noncomputable abbrev Q4:Code:=Code.body (behindTheImports uB) qJ
noncomputable abbrev Q5 (T:BT) (n t:Nat) (os:OsState):SharedT:=⟨T,n,{},Array.mk [],{},t,os⟩
noncomputable def f7 (a b:Nat):List Stmt:=((behindTheImports uB).drop a).take b
noncomputable abbrev hB:List Frame:=[topFrame ⟨0,0,0,0⟩]
noncomputable def Jb (N:Nat) (A:Params→BT) (n t:Nat) (l:List Stmt) (p:Pos) (B:Params→BT) (n' t':Nat) (p':Pos):Prop:=∀ w:World,(λos:OsState=>segRunT treeTable uB w 11 (some (.ref 6)) 1 N (Q5 (A w.params) n t os) (piecesOf l qJ Q4 p hB))=λos=>some (Flow.next,Q5 (B w.params) n' t' os,Q4,p')
theorem Zx:Jb 1000 ZF 15 187 (f7 0 5) ⟨0,0,0,0⟩ (hS 73 (hs "adacore.values" 273) 3 3) 73 275 ⟨19,0,19,8⟩:=by
 intro w
 rw [Fast.te10110043849684766642,Fast.te14364793385576792824]
 nofun
theorem Zy:Jb 1000 (hS 73 (hs "adacore.values" 273) 3 3) 73 275 (f7 5 3) ⟨19,0,19,8⟩ (hS 136 (hs "adacore.values" 273) 6 6) 136 366 ⟨30,0,34,26⟩:=by
 intro w
 rw [Fast.te10110043849684766642,Fast.te14364793385576792824]
 nofun
theorem Zz:Jb 1000 (hS 136 (hs "adacore.values" 273) 6 6) 136 366 (f7 8 22) ⟨30,0,34,26⟩ (hS 263 (hs "adacore.types" 538) 26 24) 263 546 ⟨142,0,142,12⟩:=by
 intro w
 rw [Fast.te10110043849684766642,Fast.te14364793385576792824]
 nofun
theorem Z0:Jb 1000 (hS 263 (hs "adacore.types" 538) 26 24) 263 546 (f7 30 7) ⟨142,0,142,12⟩ (hS 340 (hs "adacore.types" 538) 33 31) 340 677 ⟨195,0,197,12⟩:=by
 intro w
 rw [Fast.te10110043849684766642,Fast.te14364793385576792824]
 nofun
theorem Z1:Jb 1000 (hS 340 (hs "adacore.types" 538) 33 31) 340 677 (f7 37 15) ⟨195,0,197,12⟩ (hS 417 (hs "adacore.records" 728) 46 42) 417 779 ⟨254,0,259,28⟩:=by
 intro w
 rw [Fast.te10110043849684766642,Fast.te14364793385576792824]
 nofun
theorem Z2:Jb 1000 (hS 417 (hs "adacore.records" 728) 46 42) 417 779 (f7 52 13) ⟨254,0,259,28⟩ (hS 502 (hs "adacore.records" 728) 59 55) 502 893 ⟨321,0,324,29⟩:=by
 intro w
 rw [Fast.te10110043849684766642,Fast.te14364793385576792824]
 nofun
theorem Z3:Jb 1000 (hS 502 (hs "adacore.records" 728) 59 55) 502 893 (f7 65 14) ⟨321,0,324,29⟩ (hS 586 (hs "adacore.nodevalues" 989) 71 67) 586 998 ⟨368,0,369,47⟩:=by
 intro w
 rw [Fast.te10110043849684766642,Fast.te14364793385576792824]
 nofun
theorem Z4:Jb 1000 (hS 586 (hs "adacore.nodevalues" 989) 71 67) 586 998 (f7 79 13) ⟨368,0,369,47⟩ (hS 666 (hs "adacore.runplaces" 1087) 83 79) 666 1105 ⟨451,0,454,40⟩:=by
 intro w
 rw [Fast.te10110043849684766642,Fast.te14364793385576792824]
 nofun
theorem Z5:Jb 1000 (hS 666 (hs "adacore.runplaces" 1087) 83 79) 666 1105 (f7 92 17) ⟨451,0,454,40⟩ ZG 770 1261 ⟨582,0,602,88⟩:=by
 intro w
 rw [Fast.te10110043849684766642,Fast.te14364793385576792824]
 nofun
theorem Q6:∀ w:World,(λos:OsState=>topGo treeTable uB w 11 (some (.ref 6)) 12 ⟨boot_heap w.params,Array.mk [],boot_drawn,boot_toks,os⟩ (topStub uB))=λos=>some ((Q5 (ZF w.params) 15 187 os).abs,⟨denote treeTable Q4,Q4,⟨0,0,0,0⟩,hB⟩):=by
 intro w
 rw [Fast.te15667345088766844465,Fast.te14364793385576792824,Fast.te11892475500146522536]
 nofun
theorem Z6:∀ w:World,(λos:OsState=>segRun treeTable uB w 11 (some (.ref 6)) 1 1 (Q5 (ZF w.params) 15 187 os).abs (blockOf (behindTheImports uB) qJ Q4 ⟨0,0,0,0⟩ hB))=λos=>some (Flow.next,(Q5 (ZF w.params) 15 187 os).abs,Q4,⟨0,0,0,0⟩):=by
 intro w
 rw [Fast.te14364793385576792824]
 nofun
theorem Q7:∀ w:World,(λos:OsState=>topRun treeTable uB w 11 (some (.ref 6)) 2 (Q5 (ZG w.params) 770 1261 os).abs ⟨doneF .next,Q4,⟨582,0,602,88⟩,hB⟩)=λos=>some (Q5 (ZG w.params) 770 1261 os).abs:=by
 intro w
 rw [Fast.te14082659384304107361,Fast.te14364793385576792824]
 nofun
theorem UR {tb:String→Option Builtin} {p:Program} {w:World} {n₀:Nat} {ann:Option Value} {N:Nat} {s r:Shared} {l b:List Stmt} {env:Env} {c:Code} {pos:Pos} {B:List Frame} (h:l=b) (k:topRun tb p w n₀ ann N s (restOf l env c pos B)=some r):topRun tb p w n₀ ann N s (restOf b env c pos B)=some r:=h▸k
theorem Z7:f7 0 5++(f7 5 3++(f7 8 22++(f7 30 7++(f7 37 15++(f7 52 13++(f7 65 14++(f7 79 13++(f7 92 17++[]))))))))=behindTheImports uB:=by nofun
noncomputable abbrev Q8:Heap:=absHeap (ZG P) 770 {}
noncomputable abbrev uA (w:World) (os:OsState):Shared:=⟨Q8 w.params,Array.mk [],{},1261,os⟩
theorem Z8 (w:World) (os:OsState):topRun treeTable uB w 11 (some (.ref 6)) (12+(1+(1000+(1000+(1000+(1000+(1000+(1000+(1000+(1000+(1000+2))))))))))) ⟨boot_heap w.params,Array.mk [],boot_drawn,boot_toks,os⟩ (topStub uB)=some (uA w os) :=
 go_top (congrFun (Q6 w) os) (piece_block (congrFun (Z6 w) os) (UR Z7 (piece_app (segRun_of (congrFun (Zx w) os)) (piece_app (segRun_of (congrFun (Zy w) os)) (piece_app (segRun_of (congrFun (Zz w) os)) (piece_app (segRun_of (congrFun (Z0 w) os)) (piece_app (segRun_of (congrFun (Z1 w) os)) (piece_app (segRun_of (congrFun (Z2 w) os)) (piece_app (segRun_of (congrFun (Z3 w) os)) (piece_app (segRun_of (congrFun (Z4 w) os)) (piece_app (segRun_of (congrFun (Z5 w) os)) (piece_nil (congrFun (Q7 w) os)))))))))))))
noncomputable abbrev Fv:=importedModules uB.main.body
noncomputable abbrev Z9:Shared→Bool:=λs=>xlAt hq [] s&&recOk (RowW.records PySem.Challenge.rw_xw0011_01.row.toRowW) s
theorem hk1 (w:World) (os:OsState):(staticsOk Fv (boot_heap w.params) (Q8 w.params)&&namesBound uB (Q8 w.params)&&gensDone (uA w os)&&laidKept (boot_heap w.params) (Q8 w.params))=true:=by
 rw [@look_both (staticsOk Fv (boot_heap w.params) (Q8 w.params)&&namesBound uB (Q8 w.params)&&gensDone (uA w os)) (laidKept (boot_heap w.params) (Q8 w.params)) (by nofun) (by nofun)]
theorem hk2 (w:World) (os:OsState):openSeen hq sg Fv Z9 true (uA w os)=openGood hq sg:=by
 unfold openSeen openGood
 refine looks_pair ?_ (looks_pair ?_ (looks_pair ?_ (looks_pair ?_ (looks_pair ?_ (looks_pair ?_ (looks_pair ?_ (looks_pair ?_ ?_)))))))<;>nofun
noncomputable def has:List Addr:=(List.range 770).filter λi=>Nat.beq (Nat.mod (Nat.div MK (Nat.pow 2 i)) 2) 1
theorem aAA:has=(KK P).map (·.1):=by nofun
noncomputable abbrev Jc:Hook:=kHook KK has aAA
theorem hk3 (w:World) (os:OsState):Hook.obs Jc (uA w os)=Hook.val Jc w:=by
 show has.map (uA w os).heap.get?=(KK w.params).map λp=>some p.2
 nofun
theorem US:LeftO uB hq sg Z9 (Hook.obs Jc) (Hook.val Jc) 9788 :=
 LeftO.of_pieces (boot_open (by nofun) (by nofun) (λs=>by nofun)) (λw=>by nofun) Z8 (by nofun) λw=>funext λos=>looks_pair (hk1 w os) (looks_pair (hk2 w os) (hk3 w os))
end Mine
end
noncomputable section
open PySem PySem.W PyProof.Rows PySem.Calls
namespace Mine
variable (P:Params)
theorem UT {a b:Bool} (h:a=true) (k:b=true):(a&&b)=true:=by rw [h,k]; rfl
set_option maxHeartbeats 4000000 in
theorem hws:OpenLaw.wellSaid PySem.Challenge.rw_xw0011_01=true:=by
 rw [Fast.te9446332074065402090]
 delta Fast.tw9446332074065402090
 repeat' (with_reducible apply UT)
 ·as_aux_lemma=>nofun
 all_goals nofun
theorem aAB:RowW.promised PySem.Challenge.rw_xw0011_01.row.toRowW:=by w_witness2
theorem hch:(chainsOk hq&&opensWell PySem.Challenge.rw_xw0011_01.row.prog&&(frees PySem.Challenge.rw_xw0011_01.row.toRowW&&PySem.Challenge.rw_xw0011_01.row.within.isEmpty))=true:=by nofun
theorem UU:PySem.Challenge.rw_xw0011_01.row.prog.bare:=⟨rfl,rfl,rfl,rfl,rfl,by decide +kernel⟩
end Mine
end
noncomputable section
open PySem PySem.W PyProof.Rows PySem.Calls PySem.SeqAt
noncomputable section
namespace Mine
variable (P:Params)
theorem qm {α:Type}:∀ {l:List (Nat×α)} {a:Nat},lk l a=l.lookup a
 | [],_=>rfl
 | p::r,a=>by
  rw [aQ,List.lookup_cons]
  by_cases h:p.1=a
  ·rw [if_pos h]; subst h; simp
  ·rw [if_neg h]
   have:(a == p.1)=false:=beq_eq_false_iff_ne.mpr λe=>h e.symm
   rw [this]
   exact qm
def fdOf (K:Frag) (a:Addr):Option FuncData:=match lk K a with
 | some ⟨_,_,.func fd,_⟩=>some fd
 | _=>none
def ZH (o:Option FuncData):FuncData:=Option.rec (motive:=λ_=>FuncData) default (λx=>x) o
noncomputable def ML:FuncBody→List Stmt
 | .stmts b=>b
 | _=>[]
def aR (K:Frag) (a:Addr) (ps:List Nat) (nm:List (Nat×NameKind)) (cl:List Nat):bf:=⟨ps,(ZH (fdOf K a)).scope,ML (ZH (fdOf K a)).body,nm,cl⟩
noncomputable def Jd:FuncBody→Bool
 | .stmts _=>true
 | _=>false
def Q9 (K:Frag) (a:Addr) (ps:List Nat) (nm:List (Nat×NameKind)) (cl:List Nat):Bool:=match fdOf K a with
 | some fd=>Jd fd.body&&fd.globals == mainGlobals&&fd.builtins == builtinsNs&&fd.closure.isEmpty&&codeIn K fd.code fd.qualname&&keepIn K (.ref a)&&a9 fd.scope.names == nm&&nR fd.scope.names == cl&&(jQ fd.scope&&jP nm ps&&nU nm)
 | none=>false
theorem Je {K:Frag} {a:Addr} {ps:List Nat} {nm:List (Nat×NameKind)} {cl:List Nat} (h:Q9 K a ps nm cl=true) (hb:∀ fd,fdOf K a=some fd→∀ vs:List Value,vs.length=ps.length→bindArgs fd ⟨vs,[]⟩=pure ((ps.map dec).zip vs)):aq K a (aR K a ps nm cl):=by
 unfold Q9 at h
 cases q:fdOf K a with
 | none=>rw [q] at h; cases h
 | some fd =>
  rw [q] at h
  simp only [Bool.and_eq_true,beq_iff_eq,List.isEmpty_iff] at h
  obtain ⟨⟨⟨⟨⟨⟨⟨⟨h1,h2⟩,h3⟩,h4⟩,h5⟩,h6⟩,h7⟩,h8⟩,⟨h9,h10⟩,h11⟩:=h
  have e:aR K a ps nm cl=⟨ps,fd.scope,ML fd.body,nm,cl⟩:=by unfold aR; rw [q]; rfl
  have q':=q
  unfold fdOf at q'
  split at q'
  ·rename_i oc od fd' sl ho
   rw [qm] at ho
   cases q'
   rw [e]
   refine ⟨⟨_,fd,ho,rfl,?_,rfl,h2,h3,h4,h5,hb fd q⟩,h6,h7,h8,?_⟩
   ·dsimp only
    cases w:fd.body with
    | stmts b=>rfl
    | _=>rw [w] at h1; cases h1
   ·dsimp only
    rw [h7,h9,h10,h11]; rfl
  ·cases q'
noncomputable def Fw (n:Nat):(List Value→Prop)→Prop:=Nat.rec (motive:=λ_=>(List Value→Prop)→Prop) (λp=>p []) (λ_ ih p=>∀ v,ih λl=>p (v::l)) n
theorem qn:∀ (l:List Value) {p:List Value→Prop},Fw l.length p→p l
 | [],_,h=>h
 | v::l,p,h=>qn l (p:=λl=>p (v::l)) (h v)
theorem cy {K:Frag} {a:Addr} {ps:List Nat} {nm:List (Nat×NameKind)} {cl:List Nat} (h:Q9 K a ps nm cl=true) (hb:Fw ps.length λvs=>bindArgs (ZH (fdOf K a)) ⟨vs,[]⟩=pure ((ps.map dec).zip vs)):aq K a (aR K a ps nm cl):=Je h λfd e vs hl=>by
 rw [e,← hl] at hb
 exact qn vs hb
theorem aAC {K:Frag} {a:Addr} {ps:List Nat} {nm:List (Nat×NameKind)} {cl:List Nat} (h:Q9 K a ps nm cl=true) (hp:ps=[]) (hb:bindArgs (ZH (fdOf K a)) ⟨[],[]⟩=pure []):aq K a (aR K a ps nm cl):=by
 subst hp
 exact cy h hb
noncomputable def UW:List Nat:=[1718379891,435761734006,125779768604014]
noncomputable def UX:List (Nat×NameKind):=[(1718379891,.local),(435761734006,.local),(125779768604014,.local)]
abbrev MM (P:Params):bf:=aR (KK P) 107 UW UX []
theorem UY (P:Params):aq (KK P) 107 (MM P):=cy (by nofun) λx x x=>by nofun
noncomputable def UZ:List Nat:=[1718379891,126875187113826,495756604521]
noncomputable def Ua:List (Nat×NameKind):=[(1718379891,.local),(126875187113826,.local),(495756604521,.local)]
abbrev MN (P:Params):bf:=aR (KK P) 128 UZ Ua []
theorem Ub (P:Params):aq (KK P) 128 (MN P):=cy (by nofun) λx x x=>by nofun
noncomputable def Uc:List Nat:=[1718379891,116,126875152509286]
noncomputable def Ud:List (Nat×NameKind):=[(1718379891,.local),(116,.local),(126875152509286,.local)]
abbrev MO (P:Params):bf:=aR (KK P) 149 Uc Ud []
theorem Ue (P:Params):aq (KK P) 149 (MO P):=cy (by nofun) λx x x=>by nofun
noncomputable def Ug:List Nat:=[435761734006]
noncomputable def Uh:List (Nat×NameKind):=[(435761734006,.local),(126875152509286,.local),(1701667182,.local),(478793196199587447665513,.globalImplicit),(479125093444766347194945,.globalImplicit),(1953720684,.globalImplicit),(122656023921837168100861266,.globalImplicit),(479125093479839452655459,.globalImplicit)]
abbrev nY (P:Params):bf:=aR (KK P) 168 Ug Uh []
theorem il (P:Params):aq (KK P) 168 (nY P):=cy (by nofun) λx=>by nofun
noncomputable def Ui:List Nat:=[6581359,448612627046]
noncomputable def Uj:List (Nat×NameKind):=[(6581359,.local),(448612627046,.local),(29793,.local),(126875152509286,.local),(1701667182,.local),(478793196199587447665513,.globalImplicit),(479125093444766347194945,.globalImplicit),(7234924,.globalImplicit),(435526984050,.globalImplicit),(479125093479839368766827,.globalImplicit),(122656023921837168100861266,.globalImplicit)]
abbrev nZ (P:Params):bf:=aR (KK P) 175 Ui Uj []
theorem ip (P:Params):aq (KK P) 175 (nZ P):=cy (by nofun) λx x=>by nofun
noncomputable def Uk:List Nat:=[435761734006]
noncomputable def Ul:List (Nat×NameKind):=[(435761734006,.local)]
abbrev MP (P:Params):bf:=aR (KK P) 180 Uk Ul []
theorem Um (P:Params):aq (KK P) 180 (MP P):=cy (by nofun) λx=>by nofun
noncomputable def Un:List Nat:=[435459026032]
noncomputable def Uo:List (Nat×NameKind):=[(435459026032,.local),(7827308,.local),(1751607656,.local),(500069396323,.local),(7889261,.globalImplicit)]
abbrev MQ (P:Params):bf:=aR (KK P) 187 Un Uo []
theorem Up (P:Params):aq (KK P) 187 (MQ P):=cy (by nofun) λx=>by nofun
noncomputable def Uq:List Nat:=[110442657834354,1701667182]
noncomputable def Ur:List (Nat×NameKind):=[(110442657834354,.local),(1701667182,.local),(7310302486867305537,.globalImplicit)]
abbrev MR (P:Params):bf:=aR (KK P) 194 Uq Ur []
theorem Us (P:Params):aq (KK P) 194 (MR P):=cy (by nofun) λx x=>by nofun
noncomputable def Ut:List Nat:=[435459026032]
noncomputable def Uu:List (Nat×NameKind):=[(435459026032,.local),(1685221239,.local),(126278025261782740970596710,.globalImplicit),(479125093444766347194945,.globalImplicit),(139543078711807261102664819,.globalImplicit),(8245935277854516289,.globalImplicit)]
abbrev MS (P:Params):bf:=aR (KK P) 199 Ut Uu []
theorem Uv (P:Params):aq (KK P) 199 (MS P):=cy (by nofun) λx=>by nofun
noncomputable def Uw:List Nat:=[435459026032,435761734006]
noncomputable def Ux:List (Nat×NameKind):=[(435459026032,.local),(435761734006,.local),(1685221239,.local),(7824750,.local),(1885697139,.local),(29793,.local),(126278025261782740970596710,.globalImplicit),(435526984050,.globalImplicit),(7234924,.globalImplicit),(479125093479839368766827,.globalImplicit),(8245935277854516289,.globalImplicit)]
abbrev MT (P:Params):bf:=aR (KK P) 204 Uw Ux []
theorem Uy (P:Params):aq (KK P) 204 (MT P):=cy (by nofun) λx x=>by nofun
noncomputable def Uz:List Nat:=[7827308,1751607656]
noncomputable def U0:List (Nat×NameKind):=[(7827308,.local),(1751607656,.local),(7889261,.globalImplicit)]
abbrev MU (P:Params):bf:=aR (KK P) 218 Uz U0 []
theorem U1 (P:Params):aq (KK P) 218 (MU P):=cy (by nofun) λx x=>by nofun
noncomputable def U2:List Nat:=[435761734006,32481190093287017]
noncomputable def U3:List (Nat×NameKind):=[(435761734006,.local),(32481190093287017,.local),(127979076609647,.local),(435459026032,.local),(7827308,.local),(1751607656,.local),(435526984050,.globalImplicit),(7234924,.globalImplicit),(154763737539051291229037611410260582770,.globalImplicit),(493273389536942886840676,.globalImplicit)]
abbrev MV (P:Params):bf:=aR (KK P) 225 U2 U3 []
theorem U4 (P:Params):aq (KK P) 225 (MV P):=cy (by nofun) λx x=>by nofun
noncomputable def U5:List Nat:=[435761734006,32481190093287017]
noncomputable def U6:List (Nat×NameKind):=[(435761734006,.local),(32481190093287017,.local),(140714482844342790172013673,.globalImplicit)]
abbrev MW (P:Params):bf:=aR (KK P) 232 U5 U6 []
theorem U7 (P:Params):aq (KK P) 232 (MW P):=cy (by nofun) λx x=>by nofun
noncomputable def U8:List Nat:=[435761734006,7827308,1751607656]
noncomputable def U9:List (Nat×NameKind):=[(435761734006,.local),(7827308,.local),(1751607656,.local),(500153084262,.local),(1953718636,.local),(154763737539051291229037611410260582770,.globalImplicit)]
abbrev MX (P:Params):bf:=aR (KK P) 239 U8 U9 []
theorem VA (P:Params):aq (KK P) 239 (MX P):=cy (by nofun) λx x x=>by nofun
noncomputable def VB:List Nat:=[435761734006,7827308,1751607656]
noncomputable def VC:List (Nat×NameKind):=[(435761734006,.local),(7827308,.local),(1751607656,.local),(435459026032,.local),(474214786402,.local),(122570819210907033899986035,.globalImplicit),(479125093444766347194945,.globalImplicit),(493273389536942886840676,.globalImplicit)]
abbrev Aw (P:Params):bf:=aR (KK P) 244 VB VC []
theorem Ax (P:Params):aq (KK P) 244 (Aw P):=cy (by nofun) λx x x=>by nofun
noncomputable def VD:List Nat:=[435761734006,126875187113826]
noncomputable def VE:List (Nat×NameKind):=[(435761734006,.local),(126875187113826,.local),(483735847800790657688940,.globalImplicit),(154763737539051291229037611410260582770,.globalImplicit)]
abbrev MY (P:Params):bf:=aR (KK P) 249 VD VE []
theorem VF (P:Params):aq (KK P) 249 (MY P):=cy (by nofun) λx x=>by nofun
noncomputable def VG:List Nat:=[435761734006,126875187113826]
noncomputable def VH:List (Nat×NameKind):=[(435761734006,.local),(126875187113826,.local),(9143565853997091912280854325347,.globalImplicit),(479125093444766347194945,.globalImplicit),(1953720684,.globalImplicit)]
abbrev MZ (P:Params):bf:=aR (KK P) 254 VG VH []
theorem VI (P:Params):aq (KK P) 254 (MZ P):=cy (by nofun) λx x=>by nofun
noncomputable def VJ:List Nat:=[1718379891,1684957547,1701667182]
noncomputable def VK:List (Nat×NameKind):=[(1718379891,.local),(1684957547,.local),(1701667182,.local)]
abbrev Ma (P:Params):bf:=aR (KK P) 276 VJ VK []
theorem VL (P:Params):aq (KK P) 276 (Ma P):=cy (by nofun) λx x x=>by nofun
noncomputable def VM:List Nat:=[1718379891,116,549831247337278097223523]
noncomputable def VN:List (Nat×NameKind):=[(1718379891,.local),(116,.local),(549831247337278097223523,.local)]
abbrev Mb (P:Params):bf:=aR (KK P) 297 VM VN []
theorem VO (P:Params):aq (KK P) 297 (Mb P):=cy (by nofun) λx x x=>by nofun
noncomputable def VP:List Nat:=[448629336439]
noncomputable def VQ:List (Nat×NameKind):=[(448629336439,.local)]
abbrev Mc (P:Params):bf:=aR (KK P) 311 VP VQ []
theorem VS (P:Params):aq (KK P) 311 (Mc P):=cy (by nofun) λx=>by nofun
noncomputable def VT:List Nat:=[1701667182,7827308,1751607656]
noncomputable def VU:List (Nat×NameKind):=[(1701667182,.local),(7827308,.local),(1751607656,.local),(1701077357,.local),(1701869908,.globalImplicit)]
abbrev Md (P:Params):bf:=aR (KK P) 318 VT VU []
theorem VV (P:Params):aq (KK P) 318 (Md P):=cy (by nofun) λx x x=>by nofun
noncomputable def VW:List Nat:=[1701667182,517097156201,2147777198292034482019,2036277175527580016820010021253993]
noncomputable def VX:List (Nat×NameKind):=[(1701667182,.local),(517097156201,.local),(2147777198292034482019,.local),(2036277175527580016820010021253993,.local),(1701077357,.local),(1701869908,.globalImplicit),(1953720684,.globalImplicit)]
abbrev Me (P:Params):bf:=aR (KK P) 325 VW VX []
theorem VY (P:Params):aq (KK P) 325 (Me P):=cy (by nofun) λx x x x=>by nofun
noncomputable def VZ:List Nat:=[1701667182,9147272392226119990988942567780,545219922728301234057059,32772461958422902]
noncomputable def Va:List (Nat×NameKind):=[(1701667182,.local),(9147272392226119990988942567780,.local),(545219922728301234057059,.local),(32772461958422902,.local),(1701077357,.local),(1701869908,.globalImplicit),(1953720684,.globalImplicit)]
abbrev Mf (P:Params):bf:=aR (KK P) 332 VZ Va []
theorem Vb (P:Params):aq (KK P) 332 (Mf P):=cy (by nofun) λx x x x=>by nofun
noncomputable def Vc:List Nat:=[116,125779768604014]
noncomputable def Vd:List (Nat×NameKind):=[(116,.local),(125779768604014,.local)]
abbrev Mg (P:Params):bf:=aR (KK P) 339 Vc Vd []
theorem Ve (P:Params):aq (KK P) 339 (Mg P):=cy (by nofun) λx x=>by nofun
noncomputable def Vf:List Nat:=[116]
noncomputable def Vg:List (Nat×NameKind):=[(116,.local),(25769832467534566817198588755,.globalImplicit)]
abbrev Mh (P:Params):bf:=aR (KK P) 353 Vf Vg []
theorem Vh (P:Params):aq (KK P) 353 (Mh P):=cy (by nofun) λx=>by nofun
noncomputable def Vi:List Nat:=[448629336439]
noncomputable def Vj:List (Nat×NameKind):=[(448629336439,.local),(7827308,.local),(1751607656,.local),(139500743507907814379184482,.globalImplicit),(7234314156209173870,.globalImplicit),(7309475735946948201,.globalImplicit)]
abbrev Mi (P:Params):bf:=aR (KK P) 367 Vi Vj []
theorem Vk (P:Params):aq (KK P) 367 (Mi P):=cy (by nofun) λx=>by nofun
noncomputable def Vl:List Nat:=[28552639593739635]
noncomputable def Vm:List (Nat×NameKind):=[(28552639593739635,.local),(495774233972,.local),(110425377629538,.local),(21456323992045189141871415117,.globalImplicit),(549795218491841697900611,.globalImplicit),(28552639593739603,.globalImplicit)]
abbrev Mj (P:Params):bf:=aR (KK P) 374 Vl Vm []
theorem Vn (P:Params):aq (KK P) 374 (Mj P):=cy (by nofun) λx=>by nofun
noncomputable def Vo:List Nat:=[116]
noncomputable def Vp:List (Nat×NameKind):=[(116,.local),(31393959237014133827819042150,.globalImplicit),(28552639593739603,.globalImplicit)]
abbrev Mk (P:Params):bf:=aR (KK P) 381 Vo Vp []
theorem Vq (P:Params):aq (KK P) 381 (Mk P):=cy (by nofun) λx=>by nofun
noncomputable def Vr:List Nat:=[32772461958422902]
noncomputable def Vs:List (Nat×NameKind):=[(32772461958422902,.local),(431349919590,.local),(29113321804882295,.local),(1701995880,.local),(32481099966802019,.local),(545219922728301234057059,.local),(491328007785,.local)]
abbrev Ml (P:Params):bf:=aR (KK P) 428 Vr Vs []
theorem Vt (P:Params):aq (KK P) 428 (Ml P):=cy (by nofun) λx=>by nofun
noncomputable def Vu:List Nat:=[116]
noncomputable def Vv:List (Nat×NameKind):=[(116,.local),(431349919590,.local),(9142628908152261600137998131574,.globalImplicit)]
abbrev Mm (P:Params):bf:=aR (KK P) 433 Vu Vv []
theorem Vw (P:Params):aq (KK P) 433 (Mm P):=cy (by nofun) λx=>by nofun
noncomputable def Vx:List Nat:=[435761734006]
noncomputable def Vy:List (Nat×NameKind):=[(435761734006,.local),(431349919590,.local),(1701667182,.local),(28552639593739635,.local),(32770348699510116,.local)]
abbrev Mn (P:Params):bf:=aR (KK P) 440 Vx Vy []
theorem Vz (P:Params):aq (KK P) 440 (Mn P):=cy (by nofun) λx=>by nofun
noncomputable def V0:List Nat:=[435761734006,1701667182]
noncomputable def V1:List (Nat×NameKind):=[(435761734006,.local),(1701667182,.local),(154763737539051291229037611410260582770,.globalImplicit)]
abbrev Mo (P:Params):bf:=aR (KK P) 447 V0 V1 []
theorem V2 (P:Params):aq (KK P) 447 (Mo P):=cy (by nofun) λx x=>by nofun
noncomputable def V3:List Nat:=[435761734006,1701667182]
noncomputable def V4:List (Nat×NameKind):=[(435761734006,.local),(1701667182,.local),(121404468257627020259059811,.globalImplicit)]
abbrev Mp (P:Params):bf:=aR (KK P) 454 V3 V4 []
theorem V5 (P:Params):aq (KK P) 454 (Mp P):=cy (by nofun) λx x=>by nofun
noncomputable def V6:List Nat:=[6647407,491327616111]
noncomputable def V7:List (Nat×NameKind):=[(6647407,.local),(491327616111,.local),(1952867692,.cell),(499967814002,.cell),(7955995165921077604,.globalImplicit)]
abbrev Mq (P:Params):bf:=aR (KK P) 466 V6 V7 [1952867692,499967814002]
theorem V8 (P:Params):aq (KK P) 466 (Mq P):=cy (by nofun) λx x=>by nofun
noncomputable def V9:List Nat:=[127978876068212,111477796466547,7234320770525000553]
noncomputable def WA:List (Nat×NameKind):=[(127978876068212,.local),(111477796466547,.local),(7234320770525000553,.local),(448612627046,.local),(7239535,.local),(1701667182,.local),(544906689481854247854451,.globalImplicit),(154763737539051291229037611410260582770,.globalImplicit),(479125093479839452655459,.globalImplicit),(544943148383632993968496,.globalImplicit),(479125093479839368766827,.globalImplicit)]
abbrev Mr (P:Params):bf:=aR (KK P) 473 V9 WA []
theorem WB (P:Params):aq (KK P) 473 (Mr P):=cy (by nofun) λx x x=>by nofun
noncomputable def WC:List Nat:=[116,435761734006]
noncomputable def WD:List (Nat×NameKind):=[(116,.local),(435761734006,.local),(478995753169541503349609,.globalImplicit),(9459536821400403164738529488481,.globalImplicit)]
abbrev Ms (P:Params):bf:=aR (KK P) 494 WC WD []
theorem WE (P:Params):aq (KK P) 494 (Ms P):=cy (by nofun) λx x=>by nofun
noncomputable def WG:List Nat:=[116,6581359,435761734006]
noncomputable def WH:List (Nat×NameKind):=[(116,.local),(6581359,.local),(435761734006,.local),(154763737539051291229037611410260582770,.globalImplicit),(8390876191009961839,.globalImplicit)]
abbrev Mt (P:Params):bf:=aR (KK P) 501 WG WH []
theorem WI (P:Params):aq (KK P) 501 (Mt P):=cy (by nofun) λx x x=>by nofun
noncomputable def WJ:List Nat:=[28552639593739635]
noncomputable def WK:List (Nat×NameKind):=[(28552639593739635,.local)]
abbrev Mu (P:Params):bf:=aR (KK P) 515 WJ WK []
theorem WL (P:Params):aq (KK P) 515 (Mu P):=cy (by nofun) λx=>by nofun
noncomputable def WM:List Nat:=[435761734006,7827308,1751607656]
noncomputable def WN:List (Nat×NameKind):=[(435761734006,.local),(7827308,.local),(1751607656,.local)]
abbrev Mv (P:Params):bf:=aR (KK P) 522 WM WN []
theorem WO (P:Params):aq (KK P) 522 (Mv P):=cy (by nofun) λx x x=>by nofun
noncomputable def WQ:List Nat:=[28552639593739635,435761734006]
noncomputable def WR:List (Nat×NameKind):=[(28552639593739635,.local),(435761734006,.local),(7827308,.local),(1751607656,.local),(1889593155454558891874,.globalImplicit),(2128612419249081642601,.globalImplicit)]
abbrev Mw (P:Params):bf:=aR (KK P) 529 WQ WR []
theorem WS (P:Params):aq (KK P) 529 (Mw P):=cy (by nofun) λx x=>by nofun
noncomputable def WT:List Nat:=[28552639593739635,435761734006]
noncomputable def WU:List (Nat×NameKind):=[(28552639593739635,.local),(435761734006,.local),(2110234346230831346537,.globalImplicit),(111546565289330,.globalImplicit)]
abbrev Mx (P:Params):bf:=aR (KK P) 536 WT WU []
theorem WV (P:Params):aq (KK P) 536 (Mx P):=cy (by nofun) λx x=>by nofun
noncomputable def WW:List Nat:=[28552639593739635]
noncomputable def WX:List (Nat×NameKind):=[(28552639593739635,.local),(31393959237014133827819042150,.globalImplicit),(35713366077147123871228653161,.globalImplicit)]
abbrev My (P:Params):bf:=aR (KK P) 604 WW WX []
theorem WY (P:Params):aq (KK P) 604 (My P):=cy (by nofun) λx=>by nofun
noncomputable def WZ:List Nat:=[28552639593739635,435761734006]
noncomputable def Wa:List (Nat×NameKind):=[(28552639593739635,.local),(435761734006,.local),(116,.local),(31393959237014133827819042150,.globalImplicit),(2109948917401817936745,.globalImplicit),(122589947692440912010766435,.globalImplicit),(31071152431844772644813697633,.globalImplicit),(7954215022552261774055525541234,.globalImplicit),(479125093479839452655459,.globalImplicit)]
abbrev Mz (P:Params):bf:=aR (KK P) 625 WZ Wa []
theorem Wb (P:Params):aq (KK P) 625 (Mz P):=cy (by nofun) λx x=>by nofun
noncomputable def Wc:List Nat:=[28552639593739635]
noncomputable def Wd:List (Nat×NameKind):=[(28552639593739635,.local),(31393959237014133827819042150,.globalImplicit)]
abbrev M0 (P:Params):bf:=aR (KK P) 658 Wc Wd []
theorem We (P:Params):aq (KK P) 658 (M0 P):=cy (by nofun) λx=>by nofun
noncomputable def Wf:List Nat:=[7239026,435459026032,28552639593739635,435761734006]
noncomputable def Wg:List (Nat×NameKind):=[(7239026,.local),(435459026032,.local),(28552639593739635,.local),(435761734006,.local),(478793196199587447665513,.globalImplicit),(122656023921837168100861266,.globalImplicit),(9225865939243520195885211546465,.globalImplicit),(1871225788402284393830,.globalImplicit),(478792262542605584262514,.globalImplicit),(7954204061866013292848787453043,.globalImplicit)]
abbrev M1 (P:Params):bf:=aR (KK P) 665 Wf Wg []
theorem Wh (P:Params):aq (KK P) 665 (M1 P):=cy (by nofun) λx x x x=>by nofun
noncomputable def Wi:List Nat:=[435459026032,28552639593739635,435761734006]
noncomputable def Wj:List (Nat×NameKind):=[(435459026032,.local),(28552639593739635,.local),(435761734006,.local),(131320543933289,.local),(6581359,.local),(478793196199587447665513,.globalImplicit),(479125093444766347194945,.globalImplicit),(7954204061866013292848787453043,.globalImplicit),(479125093479839402192739,.globalImplicit),(122570819210907034185200247,.globalImplicit),(146740204893006570759744627,.globalImplicit),(478792262542605584262514,.globalImplicit),(479125093479839368766827,.globalImplicit),(122656023921837168100861266,.globalImplicit),(7958232202697688703800494486369,.globalImplicit),(478958352205130950996841,.globalImplicit),(1871582396405622532454,.globalImplicit)]
abbrev M5 (P:Params):bf:=aR (KK P) 672 Wi Wj []
theorem Wk (P:Params):aq (KK P) 672 (M5 P):=cy (by nofun) λx x x=>by nofun
noncomputable def Wl:List Nat:=[]
noncomputable def Wm:List (Nat×NameKind):=[(435610937463,.local),(7824742,.local),(1919508848,.local),(7827314,.local),(495874892144,.local),(7892834,.local),(7305076,.local),(31393959236797101261855157865,.globalImplicit),(28552639593739603,.globalImplicit),(7234314156209173870,.globalImplicit),(122632653268723339609990514,.globalImplicit),(479033801831040454652513,.globalImplicit)]
abbrev M6 (P:Params):bf:=aR (KK P) 679 Wl Wm []
theorem Wn (P:Params):aq (KK P) 679 (M6 P):=aAC (by nofun) rfl (by nofun)
noncomputable def Wo:List Nat:=[1701863796,2037277037]
noncomputable def Wq:List (Nat×NameKind):=[(1701863796,.local),(2037277037,.local),(7234924,.globalImplicit)]
abbrev M7 (P:Params):bf:=aR (KK P) 686 Wo Wq []
theorem M8 (P:Params):aq (KK P) 686 (M7 P):=cy (by nofun) λx x=>by nofun
noncomputable def Wr:List Nat:=[1953523051,32495402090329454]
noncomputable def Ws:List (Nat×NameKind):=[(1953523051,.local),(32495402090329454,.local),(122656023921837168100861266,.globalImplicit)]
abbrev M9 (P:Params):bf:=aR (KK P) 693 Wr Ws []
theorem Wt (P:Params):aq (KK P) 693 (M9 P):=cy (by nofun) λx x=>by nofun
noncomputable def Wu:List Nat:=[1953523051,32495402090329454]
noncomputable def Wv:List (Nat×NameKind):=[(1953523051,.cell),(32495402090329454,.cell),(7827314,.local),(479125093444766347194945,.globalImplicit),(122656023921837168100861266,.globalImplicit),(31702112503092591869554682975,.globalImplicit)]
abbrev NA (P:Params):bf:=aR (KK P) 698 Wu Wv [1953523051,32495402090329454]
theorem Ww (P:Params):aq (KK P) 698 (NA P):=cy (by nofun) λx x=>by nofun
noncomputable def Wx:List Nat:=[435761734006]
noncomputable def Wy:List (Nat×NameKind):=[(435761734006,.cell),(478793196199587447665513,.globalImplicit),(479125093444766347194945,.globalImplicit),(122656023921837168100861266,.globalImplicit),(110386908131187,.globalImplicit)]
abbrev nc (P:Params):bf:=aR (KK P) 703 Wx Wy [435761734006]
theorem iq (P:Params):aq (KK P) 703 (nc P):=cy (by nofun) λx=>by nofun
noncomputable def Wz:List Nat:=[1701863796,1953656691]
noncomputable def W0:List (Nat×NameKind):=[(1701863796,.local),(1953656691,.local),(1752457584,.local),(2148497774163810937951,.globalImplicit)]
abbrev nh (P:Params):bf:=aR (KK P) 710 Wz W0 []
theorem ni (P:Params):aq (KK P) 710 (nh P):=cy (by nofun) λx x=>by nofun
noncomputable def W2:List Nat:=[1752457584]
noncomputable def W3:List (Nat×NameKind):=[(1752457584,.local),(474214786402,.local),(500069396323,.local),(1953653104,.local),(478793196199587447665513,.globalImplicit),(7500915,.globalImplicit)]
abbrev aU (P:Params):bf:=aR (KK P) 717 W2 W3 []
theorem aV (P:Params):aq (KK P) 717 (aU P):=cy (by nofun) λx=>by nofun
noncomputable def W4:List Nat:=[495740282211,1752457584]
noncomputable def W5:List (Nat×NameKind):=[(495740282211,.local),(1752457584,.local),(435459026032,.local),(1953653104,.local),(1701995880,.local),(478792262542605584262514,.globalImplicit),(478793196199587447665513,.globalImplicit),(479125093444766347194945,.globalImplicit),(478792262542605735523433,.globalImplicit),(122570819210907029755750758,.globalImplicit)]
abbrev aW (P:Params):bf:=aR (KK P) 724 W4 W5 []
theorem aX (P:Params):aq (KK P) 724 (aW P):=cy (by nofun) λx x=>by nofun
noncomputable def Fx:List Nat:=[435459026032,28552639593739635,435761734006]
noncomputable def uh:List (Nat×NameKind):=[(435459026032,.local),(28552639593739635,.local),(435761734006,.local),(500035838310,.local),(526330457906186969642099,.globalImplicit),(7310302486867305537,.globalImplicit)]
abbrev bx (P:Params):bf:=aR (KK P) 731 Fx uh []
theorem b0 (P:Params):aq (KK P) 731 (bx P):=cy (by nofun) λx x x=>by nofun
noncomputable def W6:List Nat:=[7239535,1752457584,499934390387,32495402090329454]
noncomputable def W7:List (Nat×NameKind):=[(7239535,.local),(1752457584,.local),(499934390387,.local),(32495402090329454,.local),(474214786402,.local),(7827314,.local),(2036163086780983241823,.globalImplicit),(7234924,.globalImplicit)]
abbrev NB (P:Params):bf:=aR (KK P) 738 W6 W7 []
theorem W8 (P:Params):aq (KK P) 738 (NB P):=cy (by nofun) λx x x x=>by nofun
noncomputable def Fy:List Nat:=[1701863796,495740282211,7239535]
noncomputable def Ay:List (Nat×NameKind):=[(1701863796,.local),(495740282211,.local),(7239535,.local),(1818324839,.local),(111477796466547,.local),(7827308,.local),(500153084262,.local),(435761734006,.local),(474214786402,.local),(32495402090329454,.local),(435459026032,.local),(1926847491202261019743,.globalImplicit),(2148497774163810937951,.globalImplicit),(122656023930838813761956979,.globalImplicit),(478792262542605584262514,.globalImplicit),(478792262542605903031391,.globalImplicit),(2036163086780983241823,.globalImplicit),(122570819210907033899986035,.globalImplicit),(8391737036001864799,.globalImplicit),(121371651936228043896482911,.globalImplicit)]
abbrev Az (P:Params):bf:=aR (KK P) 745 Fy Ay []
theorem Fz (P:Params):aq (KK P) 745 (Az P):=cy (by nofun) λx x x=>by nofun
noncomputable def NC:List Nat:=[1953523051,1701863796,495740282211,7239535,495622906222]
noncomputable def F0:List (Nat×NameKind):=[(1953523051,.local),(1701863796,.local),(495740282211,.local),(7239535,.local),(495622906222,.local),(1953656691,.cell),(474450194027,.local),(1752457584,.local),(435459026032,.local),(435761734006,.local),(32495402090329454,.local),(111477796466547,.local),(474214786402,.local),(500069396323,.local),(6649188,.local),(2148497774163810937951,.globalImplicit),(8391722742350703711,.globalImplicit),(7234924,.globalImplicit),(1926847491202261019743,.globalImplicit),(478792262542605903031391,.globalImplicit),(478792262542605584262514,.globalImplicit),(2036163086780983241823,.globalImplicit),(8391737036001864799,.globalImplicit),(121371651936228043896482911,.globalImplicit)]
abbrev A0 (P:Params):bf:=aR (KK P) 750 NC F0 [1953656691]
theorem F1 (P:Params):aq (KK P) 750 (A0 P):=cy (by nofun) λx x x x x=>by nofun
noncomputable def F2:List Nat:=[7239535,495622906222]
noncomputable def A1:List (Nat×NameKind):=[(7239535,.local),(495622906222,.local),(1953656691,.local),(1752457584,.local),(435459026032,.local),(474214786402,.local),(500069396323,.local),(2036163086780983241823,.globalImplicit),(2146842411029682547807,.globalImplicit),(478792262542605584262514,.globalImplicit)]
abbrev A2 (P:Params):bf:=aR (KK P) 757 F2 A1 []
theorem A3 (P:Params):aq (KK P) 757 (A2 P):=cy (by nofun) λx x=>by nofun
noncomputable def W9:List Nat:=[435459026032]
noncomputable def XA:List (Nat×NameKind):=[(435459026032,.local),(1701995880,.local),(478792262542605584262514,.globalImplicit),(478793196199587447665513,.globalImplicit),(479125093444766347194945,.globalImplicit),(122656023921837168100861266,.globalImplicit),(478792262542605735523433,.globalImplicit),(122570819210907029755750758,.globalImplicit),(110386908131187,.globalImplicit)]
abbrev ND (P:Params):bf:=aR (KK P) 764 W9 XA []
theorem XB (P:Params):aq (KK P) 764 (ND P):=cy (by nofun) λx=>by nofun
noncomputable def XC:List Nat:=[128026154263411]
noncomputable def F3:List (Nat×NameKind):=[(128026154263411,.local),(1953523051,.local),(1701863796,.local),(7239535,.local),(495740282211,.cell),(1701667182,.local),(435761734006,.local),(495622906222,.local),(1852994932,.local),(1953656691,.local),(1752457584,.local),(435459026032,.local),(2147921310112972631135,.globalImplicit),(435526984050,.globalImplicit),(479125093444766347194945,.globalImplicit),(123836377399240877976677471,.globalImplicit),(1819043139,.globalImplicit),(2148497774163810937951,.globalImplicit),(1926847491202261019743,.globalImplicit),(478792262542605903031391,.globalImplicit),(1851980763702621203551,.globalImplicit),(154732543826880787446352710834810088543,.globalImplicit),(8391737036001864799,.globalImplicit),(121371651936228043896482911,.globalImplicit),(2037748055882166529119,.globalImplicit)]
abbrev ft (P:Params):bf:=aR (KK P) 769 XC F3 [495740282211]
theorem NF (P:Params):aq (KK P) 769 (ft P):=cy (by nofun) λx=>by nofun
noncomputable def NG:dn:=⟨[435761734006,125779768604014,28552639593739635],107⟩
theorem XD (P:Params):sS (KK P) 110 NG:=jJ (by nofun)
noncomputable def NH:dn:=⟨[126875187113826,495756604521],128⟩
theorem XG (P:Params):sS (KK P) 131 NH:=jJ (by nofun)
noncomputable def NI:dn:=⟨[1701869940,126875152509286],149⟩
theorem XH (P:Params):sS (KK P) 152 NI:=jJ (by nofun)
noncomputable def NJ:dn:=⟨[1684957547,1701667182,125779768604014,128017497219440,7827308,1751607656,8317129755802757484,32498731008159597,465674792307,517097156201,2147777198292034482019,2036277175527580016820010021253993,9147272392226119990988942567780,545219922728301234057059,32772461958422902,474108155543780756514148,1851981329959648981865,1701079415,474108157794489697530729,479105859998993637929833,140704706938619912968434537,140756653113759750474920809,28556934426620777,545109315453889894772847],276⟩
theorem XI (P:Params):sS (KK P) 279 NJ:=jJ (by nofun)
noncomputable def NK:dn:=⟨[1701869940,549831247337278097223523],297⟩
theorem XJ (P:Params):sS (KK P) 300 NK:=jJ (by nofun)
noncomputable def nj:List (Nat×dn):=[(110,NG),(131,NH),(152,NI),(279,NJ),(300,NK)]
def iZ (P:Params):List (Nat×bf):=[(107,MM P),(128,MN P),(149,MO P),(168,nY P),(175,nZ P),(180,MP P),(187,MQ P),(194,MR P),(199,MS P),(204,MT P),(218,MU P),(225,MV P),(232,MW P),(239,MX P),(244,Aw P),(249,MY P),(254,MZ P),(276,Ma P),(297,Mb P),(311,Mc P),(318,Md P),(325,Me P),(332,Mf P),(339,Mg P),(353,Mh P),(367,Mi P),(374,Mj P),(381,Mk P),(428,Ml P),(433,Mm P),(440,Mn P),(447,Mo P),(454,Mp P),(466,Mq P),(473,Mr P),(494,Ms P),(501,Mt P),(515,Mu P),(522,Mv P),(529,Mw P),(536,Mx P),(604,My P),(625,Mz P),(658,M0 P),(665,M1 P),(672,M5 P),(679,M6 P),(693,M9 P),(698,NA P),(703,nc P),(710,nh P),(717,aU P),(724,aW P),(731,bx P),(738,NB P),(745,Az P),(750,A0 P),(757,A2 P),(764,ND P),(769,ft P)]
theorem kOk (P:Params):Y7 (KK P):=⟨by nofun,by nofun⟩
end Mine
end
noncomputable section
open PySem PySem.W PyProof.Rows PySem.Calls PySem.SeqAt
namespace Mine
variable (P:Params)
noncomputable def globT:List (Nat×SV):=[(479125093479839452655459,.kref 168),
 (479125093479839368766827,.kref 175),
 (483735847800790657688940,.kref 180),
 (139543078711807261102664819,.kref 187),
 (126278025261782740970596710,.kref 194),
 (478792262542605584262514,.kref 199),
 (122570819210907034185200247,.kref 204),
 (493273389536942886840676,.kref 218),
 (140714482844342790172013673,.kref 225),
 (478792262542605735523433,.kref 232),
 (122570819210907033899986035,.kref 239),
 (122656023930838813761956979,.kref 244),
 (9143565853997091912280854325347,.kref 249),
 (146740204893006570759744627,.kref 254),
 (139500743507907814379184482,.kref 311),
 (7309475735946948201,.kref 318),
 (479033801831040454652513,.kref 325),
 (122632653268723339609990514,.kref 332),
 (7234314156209173870,.kref 339),
 (2109948917401817936745,.kref 353),
 (31393959236797101261855157865,.kref 367),
 (31393959237014133827819042150,.kref 374),
 (1871225788402284393830,.kref 381),
 (9142628908152261600137998131574,.kref 428),
 (544943148383632993968496,.kref 433),
 (7955995165921077604,.kref 440),
 (121404468257627020259059811,.kref 447),
 (122570819210907029755750758,.kref 454),
 (544906689481854247854451,.kref 466),
 (7958232202697688703800494486369,.kref 473),
 (8390876191009961839,.kref 494),
 (9225865939243520195885211546465,.kref 501),
 (1889593155454558891874,.kref 515),
 (2128612419249081642601,.kref 522),
 (2110234346230831346537,.kref 529),
 (122589947692440912010766435,.kref 536),
 (35712190338024400476542888294,.kref 604),
 (1871582396405622532454,.kref 625),
 (478958352205130950996841,.kref 658),
 (526330457906186969642099,.kref 665),
 (7954204061866013292848787453043,.kref 672),
 (2147921310112972631135,.kref 679),
 (2148497774163810937951,.kref 686),
 (31702112503092591869554682975,.kref 693),
 (123836377399240877976677471,.kref 698),
 (2146842411029682547807,.kref 703),
 (1926847491202261019743,.kref 710),
 (2036163086780983241823,.kref 717),
 (478792262542605903031391,.kref 724),
 (121371651936228043896482911,.kref 731),
 (8391737036001864799,.kref 738),
 (8391722742350703711,.kref 745),
 (1851980763702621203551,.kref 750),
 (154732543826880787446352710834810088543,.kref 757),
 (2037748055882166529119,.kref 764),
 (7823724,.kref 769),
 (1819043139,.kref 110),
 (479125093444766347194945,.kref 131),
 (122656023921837168100861266,.kref 152),
 (1701869908,.kref 279),
 (28552639593739603,.kref 300),
 (7310302486867305537,.kref 70),
 (8245935277854516289,.kref 31),
 (111546565289330,.kref 508),
 (25769832467534566817198588755,.kref 262),
 (7234924,.bi 0),
 (7889261,.bi 1),
 (478793196199587447665513,.bi 2),
 (110386908131187,.bi 3),
 (1953720684,.ty 0),
 (435526984050,.ty 1),
 (7500915,.ty 2),
 (2037169923944901474373,.ty 8)]
noncomputable def ktT:List (Nat×List SV):=[(262,[.str 1836412517,.str 7630441,.str 6582125,.str 431199119718,.str 1999270441984736194165])]
noncomputable def cG:Pg:=⟨globT,ktT,nj,iZ P,[],P⟩
noncomputable def A4 (K:Frag):List (Nat×SV)→Bool
 | []=>true
 | p::r=>(match p.2 with
  | .kref a=>nsIn K mainGlobals (dec p.1) == some (some (.ref a))
  | .bi n=>nsIn K mainGlobals (dec p.1) == some none&&bootBuiltins (dec p.1) == some (.builtin (sI n))&&!(dec p.1 == ("__name__" : Str))
  | .ty n=>nsIn K mainGlobals (dec p.1) == some none&&bootBuiltins (dec p.1) == some (.type (tyName n))&&!(dec p.1 == ("__name__" : Str))
  | _=>false)&&A4 K r
theorem ui {K:Frag} {p:Program} {loose:List Str} {mean:ExcName→Option Value} {mg mb:Str→Option Value} {h:Heap} (X:K.In h) (T:Top p loose mean mg mb h):∀ {l:List (Nat×SV)},A4 K l=true→yE mg mb l
 | [],_=>λ_ _ e=>nomatch e
 | q::r,hb=>by
  unfold A4 at hb
  rw [Bool.and_eq_true] at hb
  intro x sv e
  rw [aQ] at e
  by_cases z:q.1=x
  ·rw [if_pos z] at e
   cases e
   subst z
   have h1:=hb.1
   cases w:q.2 with
   | kref a =>
    rw [w] at h1
    exact ⟨.ref a,λν ρ=>(rfl:Value.ref a=Value.ref a),.inl (mg_of X T.g (beq_iff_eq.mp h1))⟩
   | bi n =>
    rw [w] at h1
    simp only [Bool.and_eq_true,beq_iff_eq,Bool.not_eq_true',beq_eq_false_iff_ne,ne_eq] at h1
    exact ⟨.builtin (sI n),λν ρ=>(rfl:Value.builtin (sI n)=_),.inr ⟨mg_none_of X T.g h1.1.1,(T.builtins _ h1.2).trans h1.1.2⟩⟩
   | ty n =>
    rw [w] at h1
    simp only [Bool.and_eq_true,beq_iff_eq,Bool.not_eq_true',beq_eq_false_iff_ne,ne_eq] at h1
    exact ⟨.type (tyName n),λν ρ=>(rfl:Value.type (tyName n)=_),.inr ⟨mg_none_of X T.g h1.1.1,(T.builtins _ h1.2).trans h1.1.2⟩⟩
   | _=>rw [w] at h1; cases h1
  ·rw [if_neg z] at e
   exact ui X T hb.2 x sv e
theorem RA:A4 (KK P) globT=true:=by nofun
theorem sh {α:Type} {Q:Nat→α→Prop}:∀ {l:List (Nat×α)},(∀ p∈l,Q p.1 p.2)→∀ x v,lk l x=some v→Q x v:=λh x v e=>h _ (aZ e)
noncomputable def AllP {α:Type} (f:α→Prop):List α→Prop
 | []=>True
 | x::r=>f x∧AllP f r
theorem AllP.c {α:Type} {f:α→Prop} {x:α} {r:List α} (h:f x) (t:AllP f r):AllP f (x::r):=⟨h,t⟩
theorem AllP.mem {α:Type} {f:α→Prop}:∀ {l:List α},AllP f l→∀ x∈l,f x
 | _::_,⟨h,t⟩,x,hx=>(aM hx).elim (λe=>e▸h) λe=>AllP.mem t x e
 | [],_,_,hx=>nomatch hx
theorem aAE:AllP (λp:Nat×dn=>sS (KK P) p.1 p.2) nj:=AllP.c (XD P) <| AllP.c (XG P) <| AllP.c (XH P) <| AllP.c (XI P) <| AllP.c (XJ P) <| trivial
theorem uj:cq (KK P) nj:=sh (AllP.mem (aAE P))
theorem aAF:AllP (λp:Nat×bf=>aq (KK P) p.1 p.2) (iZ P):=AllP.c (UY P) <| AllP.c (Ub P) <| AllP.c (Ue P) <| AllP.c (il P) <| AllP.c (ip P) <| AllP.c (Um P) <| AllP.c (Up P) <| AllP.c (Us P) <| AllP.c (Uv P) <| AllP.c (Uy P) <| AllP.c (U1 P) <| AllP.c (U4 P) <| AllP.c (U7 P) <| AllP.c (VA P) <| AllP.c (Ax P) <| AllP.c (VF P) <| AllP.c (VI P) <| AllP.c (VL P) <| AllP.c (VO P) <| AllP.c (VS P) <| AllP.c (VV P) <| AllP.c (VY P) <| AllP.c (Vb P) <| AllP.c (Ve P) <| AllP.c (Vh P) <| AllP.c (Vk P) <| AllP.c (Vn P) <| AllP.c (Vq P) <| AllP.c (Vt P) <| AllP.c (Vw P) <| AllP.c (Vz P) <| AllP.c (V2 P) <| AllP.c (V5 P) <| AllP.c (V8 P) <| AllP.c (WB P) <| AllP.c (WE P) <| AllP.c (WI P) <| AllP.c (WL P) <| AllP.c (WO P) <| AllP.c (WS P) <| AllP.c (WV P) <| AllP.c (WY P) <| AllP.c (Wb P) <| AllP.c (We P) <| AllP.c (Wh P) <| AllP.c (Wk P) <| AllP.c (Wn P) <| AllP.c (Wt P) <| AllP.c (Ww P) <| AllP.c (iq P) <| AllP.c (ni P) <| AllP.c (aV P) <| AllP.c (aX P) <| AllP.c (b0 P) <| AllP.c (W8 P) <| AllP.c (Fz P) <| AllP.c (F1 P) <| AllP.c (A3 P) <| AllP.c (XB P) <| AllP.c (NF P) <| trivial
theorem XK:L7 (KK P) (iZ P):=sh (AllP.mem (aAF P))
def XM (K:Frag):Bool:=(nj.all λp=>nj.all λq=>kitOne K (.ref q.1) (.ref p.1) == some (Nat.beq q.1 p.1))&&(nj.all λp=>fb.all λn=>kitOne K (.type (tyName n)) (.ref p.1) == some false)&&(fb.all λn=>kitOne K (.type (tyName n)) (.type "str") == some (Nat.beq n 2))
theorem Jf:XM (KK P)=true:=by nofun
theorem XN:uO (KK P) nj:=by
 have h:=Jf P
 unfold XM at h
 rw [Bool.and_eq_true,Bool.and_eq_true] at h
 refine ⟨λC D d d' h1 h2=>?_,λC d n h1 h2=>?_,λn hn=>?_⟩
 ·exact beq_iff_eq.mp (List.all_eq_true.mp (List.all_eq_true.mp h.1.1 _ (aZ h1)) _ (aZ h2))
 ·exact beq_iff_eq.mp (List.all_eq_true.mp (List.all_eq_true.mp h.1.2 _ (aZ h1)) _ h2)
 ·exact beq_iff_eq.mp (List.all_eq_true.mp h.2 _ hn)
theorem XO:(KK P).lookup 262=some (ej [.str (Str.ofString "enum") 540,.str (Str.ofString "int") 541,.str (Str.ofString "mod") 542,.str (Str.ofString "fixed") 543,.str (Str.ofString "universal") 544] 0):=by nofun
theorem aAG {h:Heap} (X:(KK P).In h):yH h ktT:=sh (by
 intro p hp
 simp only [ktT,List.mem_cons,List.mem_nil_iff,or_false] at hp
 subst hp
 exact ⟨_,_,X _ _ (XO P),λν ρ=>⟨⟨_,congrArg (Value.str · _) (by decide +kernel)⟩,⟨_,congrArg (Value.str · _) (by decide +kernel)⟩,⟨_,congrArg (Value.str · _) (by decide +kernel)⟩,⟨_,congrArg (Value.str · _) (by decide +kernel)⟩,⟨_,congrArg (Value.str · _) (by decide +kernel)⟩,trivial⟩⟩)
theorem aAH {p:Program} {loose:List Str} {mean:ExcName→Option Value} {mg mb:Str→Option Value} {h:Heap} (X:(KK P).In h) (T:Top p loose mean mg mb h) (hm:∃ o,h.get? sysModules=some o):aY (cG P) (KK P) mg mb h where
 G:=⟨X,T.g,T.b,T.nolimit,hm⟩
 k:=kOk P
 glob:=ui X T (RA P)
 kt:=aAG P X
 cls:=uj P
 fns:=XK P
 isi:=XN P
 sp:=λa m e=>nomatch e
def F4 (xs:List SV):RM SV:=λσ=>match xs with
 | [.ref n,.int (.c m)]=>(match σ.hp.get n with
  | some (.dict [p,q])=>(match p.2,q.2 with
   | .ref l,.anyN=>(match σ.hp.get l with
    | some .ilist=>cond (Nat.beq p.1 26223&&Nat.beq q.1 29793&&decide (0<m)) (RM.Tz m.toNat σ) none
    | _=>none)
   | _,_=>none)
  | _=>none)
 | _=>none
structure NxP where
 s0:Stmt
 (tE lenE ofE ofE2 tE2 oneE mE lE mE2:Expr)
 (p1 p2 p3 p4 p5 p6 p7 p8 p9:Pos)
noncomputable def qIf (s:Stmt):Expr×List Stmt×Pos:=match s with
 | .If t b _ p=>(t,b,p)
 | _=>(.Constant .none 0 default,[],default)
noncomputable def qRe (s:Stmt):Expr×Pos:=match s with
 | .Return (some e) p=>(e,p)
 | _=>(.Constant .none 0 default,default)
noncomputable def qCm (e:Expr):Expr×List Expr×Pos:=match e with
 | .Compare l _ r p=>(l,r,p)
 | _=>(e,[],default)
noncomputable def qCa (e:Expr):Expr×List Expr×Pos:=match e with
 | .Call l r _ p=>(l,r,p)
 | _=>(e,[],default)
noncomputable def qBi (e:Expr):Expr×Expr×Pos:=match e with
 | .BinOp l _ r p=>(l,r,p)
 | _=>(e,e,default)
noncomputable def qSu (e:Expr):Expr×Expr×Pos:=match e with
 | .Subscript l r p=>(l,r,p)
 | _=>(e,e,default)
noncomputable def Tc (l:List Stmt):Stmt:=l.headD (.Pass default)
noncomputable def q0E (l:List Expr):Expr:=l.headD (.Constant .none 0 default)
noncomputable def nxP (b:List Stmt):NxP :=
 let c:=qCm (qIf (Tc b.tail)).1
 let f:=qCa (q0E c.2.1)
 let r:=qRe (Tc (qIf (Tc b.tail)).2.1)
 let m:=qBi r.1
 let s:=qSu m.1
 let d:=qBi s.2.1
 let z:=qRe (Tc b.tail.tail)
 let y:=qBi z.1
 ⟨Tc b,c.1,f.1,q0E f.2.1,s.1,d.1,d.2.1,m.2.1,y.1,y.2.1,f.2.2,c.2.2,d.2.2,s.2.2,m.2.2,r.2,(qIf (Tc b.tail)).2.2,y.2.2,z.2⟩
def RB (m:Int):SS:=⟨[(2037277037,.int (.c m)),(1701863796,.ref 0)],(⟨.e⟩:Hp).put 0 (.dict [(26223,.ref 1),(29793,.anyN)]),2⟩
def qo (m:Int):SS:=⟨[(2037277037,.int (.c m)),(1701863796,.ref 0)],(⟨.e⟩:Hp).put 0 (.dict [(26223,.ref 1),(29793,.int (.v 201))]),2⟩
def XQ (m:Int):SS:=⟨[(2037277037,.int (.c m)),(1701863796,.ref 0)],(⟨.e⟩:Hp).put 0 (.dict [(26223,.ref 1),(29793,.int (.v 200))]),2⟩
def It:bf:=M7 P
def kS:CE:=⟨a9 (It P).scope.names,[]⟩
def ia:NxP:=nxP (It P).body
theorem Jg:(It P).body=[(ia P).s0,.If (.Compare (ia P).tE [.LtE] [.Call (ia P).lenE [(ia P).ofE] [] (ia P).p1] (ia P).p2) [.Return (some (.BinOp (.Subscript (ia P).ofE2 (.BinOp (ia P).tE2 .Sub (ia P).oneE (ia P).p3) (ia P).p4) .Mod (ia P).mE (ia P).p5)) (ia P).p6] [] (ia P).p7,.Return (some (.BinOp (ia P).lE .Mod (ia P).mE2 (ia P).p8)) (ia P).p9]:=by nofun
abbrev Iu:Lo:=ai (cG P) 8
theorem XR (m:Int):dy (It P) [.ref 0,.int (.c m)]=true:=by nofun
theorem RC (m:Int) (h:Hp):putCells (cS (a9 (It P).scope.names) (It P).params [.ref 0,.int (.c m)] []) (It P).scope.names { (⟨[],h,2⟩:SS) with loc:=a7 (a9 (It P).scope.names) (It P).params [.ref 0,.int (.c m)] [] } []=some (⟨[(2037277037,.int (.c m)),(1701863796,.ref 0)],h,2⟩,[]):=by nofun
theorem XS (m:Int):(Iu P).S (kS P) (ia P).s0 (XQ m)=some [(.next,qo m)]:=by nofun
theorem aAL (m:Int):(Iu P).E (kS P) (ia P).tE (qo m)=some [(.int (.v 201),qo m)]:=by nofun
theorem XT (m:Int):(Iu P).E (kS P) (ia P).tE2 (qo m)=some [(.int (.v 201),qo m)]:=by nofun
theorem RD (m:Int):(Iu P).E (kS P) (ia P).ofE2 (qo m)=some [(.ref 1,qo m)]:=by nofun
theorem RE (m:Int):(Iu P).E (kS P) (ia P).lenE (qo m)=some [(.bi 0,qo m)]:=by nofun
theorem RF (m:Int):(Iu P).E (kS P) (ia P).oneE (qo m)=some [(.int (.c 1),qo m)]:=by nofun
theorem aAM (m:Int):(Iu P).E (kS P) (ia P).mE (qo m)=some [(.int (.c m),qo m)]:=by nofun
theorem XU (m:Int):(Iu P).E (kS P) (ia P).mE2 (RB m)=some [(.int (.c m),RB m)]:=by nofun
theorem aAN (m:Int):(Iu P).E (kS P) (ia P).lE (RB m)=some [(.anyN,RB m)]:=by nofun
theorem gO {o so:SO} {k:Nat} (h:((⟨.e⟩:Hp).put 0 o).get k=some so):k=0∧so=o:=by
 rw [Hp.d6 (by omega)] at h
 by_cases h0:k=0
 ·rw [if_pos h0] at h; cases h; exact ⟨h0,rfl⟩
 ·rw [if_neg h0] at h
  have:(⟨.e⟩:Hp).get k=none:=by rw [Hp.get_eq,Tr.uE]; cases Nat.blt k 1024<;>rfl
  rw [this] at h; cases h
theorem RG (o:SO):((⟨.e⟩:Hp).put 0 o).get 0=some o:=by rw [Hp.d6 (by omega)]; rfl
theorem eR {D:Ds} {n:Nat} {lo:Lo} {c:Cx} {ce:CE} {env:Env} {e:Expr} {sv:SV} {T:SS} (ok:bR D n lo) (co:c.Of D) (rm:Rm c n) {ρ:Nm} (eo:aG c ρ ce env) (h:lo.E ce e T=some [(sv,T)])
 {s:Shared} (S:c.SR ρ T s) {Q E:Value→Shared→Prop} (hQ:∀ ρ' s' v,Ext ρ ρ'→c.SR ρ' T s'→VR c.ν ρ' sv v→aT s s'→Q v s'):wpAny c.M c.A (eval e env) Q E s :=
 ok.E c ρ ce env e co rm eo T _ h ρ s (.refl _) S Q E λy σ' ρ' s' v hm x S' r sm=>by
  rcases aj hm with h
  cases h
  exact hQ ρ' s' v x S' r sm
theorem jT {func:Expr} {args:List Expr} {p:Pos} {env:Env} (h:notAttr func=true):eval (.Call func args [] p) env=(eval func env >>= λf=>callWith p f [] (backTo p (starEach args env)) []):=by
 cases func<;>first | rfl | cases h
theorem Jh (m:Int):qF (Iu P) (kS P) [(ia P).ofE] (qo m)=some [([.ref 1],qo m)]:=by nofun
theorem XW {c:Cx} {mg mb:Str→Option Value} (PG:aY (cG c.w.params) (KK c.w.params) mg mb c.hG) (rm:Rm c 8) {ρ:Nm} {env:Env} (eo:aG c ρ (kS c.w.params) env) {m:Int} (hm:0<m) {s:Shared} (S:c.SR ρ (qo m) s)
 {bl:Addr} {us:List Value} {k:Nat} (h1:ρ 1=some bl) (hl:s.heap.get? bl=some (bF us k)) (hz:c.fz bl (bF us k)) (hlen:us.length≤64) (hint:∀ v∈us,∃ i k,v=Value.int i k) (hi1:1≤c.ν 201)
 {Q:Flow→Shared→Prop} {E:Value→Shared→Prop} (q:NxP) (hq:q=ia c.w.params)
 (hN:∀ ρ' s',Ext ρ ρ'→c.SR ρ' (qo m) s'→aT s s'→Q .next s')
 (hR:∀ ρ' s' j t,Ext ρ ρ'→c.SR ρ' (qo m) s'→aT s s'→0≤j→j<m→Q (.ret (.int j t)) s') :
 wpAny c.M c.A (exec (.If (.Compare q.tE [.LtE] [.Call q.lenE [q.ofE] [] q.p1] q.p2) [.Return (some (.BinOp (.Subscript q.ofE2 (.BinOp q.tE2 .Sub q.oneE q.p3) q.p4) .Mod q.mE q.p5)) q.p6] [] q.p7) env) Q E s:=by
 subst hq
 have ok:=cP ⟨c.prog,c.w,c.ν,c.hG⟩ PG rfl 8
 have co:c.Of ⟨c.prog,c.w,c.ν,c.hG⟩:=⟨rfl,rfl,rfl,rfl⟩
 refine wpAny_If ?_
 show wpAny c.M c.A (eval _ env >>= λlv=>holding [lv] (markedBehindIn .LtE _ (eval _ env)) >>= λrv=>standAt _ >>= λ_=>operate [lv,rv] (compareOp .LtE lv rv) >>= λcc=>holding [cc] (truthy cc)) _ _ s
 refine aF (eR ok co rm eo (aAL _ m) S λρ1 s1 v1 x1 S1 r1 sm1=>?_)
 obtain ⟨t1,rfl⟩:=r1
 rw [markedBehindIn_of_false rfl]
 rw [jT (by nofun)]
 refine aF (cL (aF (eR ok co rm (eo.mono x1) (RE _ m) S1 λρ2 s2 v2 x2 S2 r2 sm2=>?_)))
 cases r2
 have Q3:bO [(ia c.w.params).ofE]=true:=by nofun
 refine Calls.callWith_builtin (dp (env:=env) Q3) ?_
 refine gM ok co rm [(ia c.w.params).ofE] ((eo.mono x1).mono x2) (qo m) _ (Jh _ m) ρ2 s2 (.refl _) S2 _ _ λxs σ3 ρ3 s3 a hm3 x3 S3 r3 sm3=>?_
 rcases aj hm3 with h
 cases h
 obtain ⟨ap,ak⟩:=a
 obtain ⟨r3,rfl⟩:=r3
 have X3:=(x1.trans x2).trans x3
 match ap,r3 with
 | [va],⟨⟨b,hb,hv⟩,_⟩ =>
  rw [X3 _ _ h1] at hb
  cases hb
  subst hv
  have hl3:s3.heap.get? bl=some (bF us k):=(S3.fzk _ _ hz).to (kJ rfl)
  have hsz:us.toArray.size=us.length:=by simp
  refine call_len_list (ao hl3) (by rw [hsz]; omega) ?_
  have S4:=S3.toks (s3.toks+1+1)
  refine aF (wpAny_standAt (aF (wpAny_operate' (iF (op:=.LtE) rfl (cL (wpAny_truthy_bool ?_))))))
  have sm4:aT s { s3 with toks:=s3.toks+1+1 }:=(sm1.trans (sm2.trans sm3)).trans (.mk _ _ _)
  by_cases hle:c.ν 201≤(us.toArray.size:Int)
  ·have hd:decide ((IT.v 201).ev c.ν≤(us.toArray.size:Int))=true:=decide_eq_true hle
   rw [if_pos hd]
   refine bL (wpAny_Return_some (wpAny_BinOp (Subscript_ (eR ok co rm (eo.mono X3) (RD _ m) S4 λρ5 s5 v5 x5 S5 r5 sm5=>wpAny_BinOp (eR ok co rm ((eo.mono X3).mono x5) (XT _ m) S5 λρ6 s6 v6 x6 S6 r6 sm6 =>
    eR ok co rm (((eo.mono X3).mono x5).mono x6) (RF _ m) S6 λρ7 s7 v7 x7 S7 r7 sm7=>?_)))))
   obtain ⟨b5,ZD,rfl⟩:=r5
   rw [x5 _ _ (X3 _ _ h1)] at ZD
   cases ZD
   obtain ⟨t6,rfl⟩:=r6
   obtain ⟨t7,rfl⟩:=r7
   refine qW (op:=.Sub) rfl ?_
   have S8:=S7.toks (s7.toks+1)
   have hl8:s7.heap.get? bl=some (bF us k):=(S7.fzk _ _ hz).to (kJ rfl)
   have hix:((IT.v 201).ev c.ν - (IT.c 1).ev c.ν).toNat<us.length:=by
    show (c.ν 201 - 1).toNat<_
    rw [hsz] at hle; omega
   refine tail_any (ops:=_) ⟨_,hl8,rfl⟩ slot_list_getitem.lookup (wpAny_getItem_list (ao hl8) (by show 0≤c.ν 201 - 1; omega) (by show c.ν 201 - 1<_; rw [hsz] at hle; omega) (x:=us[((IT.v 201).ev c.ν - (IT.c 1).ev c.ν).toNat]'hix) (by simp [hix]) ?_) (nL rfl _ _)
   obtain ⟨j,kj,hj⟩:=hint _ (List.getElem_mem hix)
   rw [hj]
   refine eR ok co rm ((((eo.mono X3).mono x5).mono x6).mono x7) (aAM _ m) S8 λρ9 s9 v9 x9 S9 r9 sm9=>?_
   obtain ⟨t9,rfl⟩:=r9
   refine mod_int' (by show m≠0; omega) ?_
   exact hR ρ9 _ _ _ ((((X3.trans x5).trans x6).trans x7).trans x9) (S9.toks _) (sm4.trans (sm5.trans (sm6.trans (sm7.trans ((aT.mk _ _ _).trans (sm9.trans (.mk _ _ _))))))) (Int.fmod_nonneg_of_pos _ hm) (Int.fmod_lt_of_pos _ hm)
  ·have hd:¬ decide ((IT.v 201).ev c.ν≤(us.toArray.size:Int))=true:=λz=>hle (of_decide_eq_true z)
   rw [if_neg hd]
   exact wpAny_execs_nil (hN ρ3 _ X3 S4 sm4)
noncomputable def nxF (n l:Nat):Nat→Option Nat
 | 0=>some n
 | 1=>some l
 | _=>none
theorem Ji {P:Params} {ν ν':Nat→Int} {ρ ρ':Nm} {l l':Nat} (h:∀ a,ρ l=some a→ρ' l'=some a) {o:Obj} (q:OR P ν ρ (.dict [(26223,.ref l),(29793,.anyN)]) o):OR P ν' ρ' (.dict [(26223,.ref l'),(29793,.anyN)]) o :=
 q.Lh (λ_ w=>let ⟨b,hb,hv⟩:=w; ⟨b,h _ hb,hv⟩) λ_ w=>w
theorem uk {P:Params} {ν ν':Nat→Int} {ρ ρ':Nm} {l l' v:Nat} (hv:0≤ν v) (h:∀ a,ρ l=some a→ρ' l'=some a) {o:Obj} (q:OR P ν ρ (.dict [(26223,.ref l),(29793,.int (.v v))]) o):OR P ν' ρ' (.dict [(26223,.ref l'),(29793,.anyN)]) o :=
 q.Lh (λ_ w=>let ⟨b,hb,hv⟩:=w; ⟨b,h _ hb,hv⟩) λ_ w=>let ⟨t,e⟩:=w; ⟨_,t,hv,e⟩
noncomputable def sq (ν:Nat→Int) (i:Int):Nat→Int:=λk=>if k=200 then i else if k=201 then i+1 else ν k
theorem F5 {c:Cx} {mg mb:Str→Option Value} (PG:aY (cG c.w.params) (KK c.w.params) mg mb c.hG) (stk:dI c) (hh:c.A.handled=none) (hd:c.A.depth+84<recursionLimit) (hu:c.A.units+1260<cLine) {ρ₀:Nm} {xs:List SV} {vs:List Value} (hv:bX c.ν ρ₀ xs vs) :
 aJ c ρ₀ (F4 xs) (call (.ref 686) vs) (VR c.ν):=by
 intro σ outs e ρ s x S Q E hQ
 replace hv:=hv.mono x
 unfold F4 at e
 split at e
 ·rename_i n m
  split at e
  ·rename_i p q hn
   split at e
   ·rename_i l hp2 hq2
    split at e
    ·rename_i hl
     cases z:(Nat.beq p.1 26223&&Nat.beq q.1 29793&&decide (0<m)) with
     | false=>rw [z] at e; cases e
     | true =>
      rw [z] at e
      rw [Bool.and_eq_true,Bool.and_eq_true] at z
      obtain ⟨⟨z1,z2⟩,z3⟩:=z
      have z1:=ar z1
      have z2:=ar z2
      have hm:=of_decide_eq_true z3
      obtain ⟨p1,p2⟩:=p
      obtain ⟨q1,q2⟩:=q
      dsimp only at z1 z2 hp2 hq2
      subst z1 z2 hp2 hq2
      obtain ⟨va,t1,rfl,hw,hv⟩:=hv.eN
      obtain ⟨vm,t2,rfl,hw',hv⟩:=hv.eN
      obtain rfl:=hv.nF
      obtain ⟨a,ha,rfl⟩:=hw
      obtain ⟨km,rfl⟩:=hw'
      ·skip
       have hnl:n≠l:=λw=>by subst w; rw [hn] at hl; cases hl
       obtain ⟨a',oT,g1,g2,g3,g4,g5⟩:=S.hp n _ hn
       rw [ha] at g1; cases g1
       obtain ⟨bl,oB,b1,b2,b3,b4,b5⟩:=S.hp l _ hl
       obtain ⟨us,kl,rfl,hlen,hint⟩:=b3
       have g3':=g3
       obtain ⟨es,rfl,hes⟩:=g3'
       obtain ⟨e1,t1,rfl,⟨k1,hh1,hw⟩,hes⟩:=hes.eN
       obtain ⟨e2,t2,rfl,⟨k2,hh2,hw'⟩,hes⟩:=hes.eN
       obtain rfl:=hes.nF
       obtain ⟨b,hb,hvb⟩:=hw
       obtain ⟨i,ti,hi,hvi⟩:=hw'
       rw [b1] at hb; cases hb
       let c1:Cx:={ c with ν:=sq c.ν i,νb:=λk hk=>by unfold sq; rw [if_neg (by omega),if_neg (by omega)]; exact c.νb k hk,νs:=by unfold sq; simp }
       let ρT:Nm:=λk=>(nxF n l k).bind ρ
       let N:Nat→Prop:=λj=>j≠n
       let T0:SS:=⟨[],(XQ m).hp,2⟩
       have ST:SR c.w.params c1.ν c.hG (λb o=>c.fz b o∨a5 ρ σ s N b o) c.L ρT T0 s:=by
        refine S.focus (N:=N) (nxF n l) (λk so hk=>?_) (λk k' j so1 so2 hk hk' _ _ w w'=>?_) (λy sv hy=>nomatch hy) (λk b hk=>?_)
        ·obtain ⟨rfl,rfl⟩:=gO hk
         refine ⟨n,_,rfl,λw=>w rfl,hn,λ_=>rfl,λa h=>h,λa' o h w _=>?_⟩
         rw [ha] at h; cases h
         rw [g2] at w; cases w
         exact ⟨[e1,e2],rfl,⟨k1,hh1,⟨bl,b1,hvb⟩⟩,⟨k2,hh2,⟨ti,by rw [hvi]; rfl⟩⟩,trivial⟩
        ·have e0:∀ k,T0.hp.get k≠none→k=0:=λk hk=>by
          cases w:T0.hp.get k with
          | none=>exact absurd w hk
          | some so=>exact (gO w).1
         rw [(gO hk).1,(gO hk').1]
        ·match k,hk with
         | 0,_=>exact (by decide:0<2)
         | 1,_=>exact (by decide:1<2)
       obtain ⟨oL,hL⟩:∃ o,s.heap.get? c.L=some o:=by obtain ⟨_,⟨o,_,_,h,_⟩,_⟩:=S.loc; exact ⟨o,h⟩
       have no:s.heap.get? s.heap.objs.size=none:=by
        cases w:s.heap.get? s.heap.objs.size with
        | none=>rfl
        | some o'=>exact absurd (bE w) (Nat.lt_irrefl _)
       have bz:a5 ρ σ s N bl (bF us kl):=⟨l,_,λw=>hnl w.symm,hl,b1,b2⟩
       refine wpAny_call ?_
       refine ml (c:=c1) (fz':=dX (λb o=>c.fz b o∨a5 ρ σ s N b o) c.L (iE oL)) (f:=686) (d:=It c.w.params) (xs:=[.ref 0,.int (.c m)]) (ρ:=ρT) (σ:=T0) (vs:=[.ref a,.int m km]) PG.G S.br (by show c.A.depth<_; omega) (M8 c.w.params)
        ⟨⟨a,ha,rfl⟩,⟨km,rfl⟩,trivial⟩ (XR _ m) (RC _ m (XQ m).hp) (λa o w=>?_) (λj so a e1 e2=>?_) (λh' tk mm hn hk hl=>SR.enter ST hn hk no hl hL) (λenv ρ1 s1 eF eo x1 S1 sm1 E'=>?_)
       ·rcases w with w | ⟨w,_⟩
        ·obtain ⟨o2,z⟩:=(ST.fzk _ _ w).at
         exact bE z
        ·exact w▸bE hL
       ·obtain ⟨b,ob,w1,w2,_⟩:=ST.hp j so e1
        rw [e2] at w1; cases w1
        exact bE w2
       ·let c2:Cx:={ c1 with A:=c.A.deeper env,fz:=dX (λb o=>c.fz b o∨a5 ρ σ s N b o) c.L (iE oL),L:=s.heap.objs.size }
        have rm:Rm c2 8:=⟨stk.push (c':=c2) (env:=env) rfl rfl (λ_ _ e=>.inl (.inl e)) ⟨(S.FW hL).1.elim λo w=>⟨iE oL,.inr ⟨rfl,rfl⟩,rfl,by obtain ⟨_,hm,_⟩:=S.loc; obtain ⟨es,ep,q⟩:=Ns.dict hm hL; exact ⟨es,ep,q⟩⟩,S.noG⟩ eo.kind eF,hh,by show c.A.depth+1+4 * 8+44<_; omega,by show c.A.units+3+60 * 8+660<_; omega⟩
        have ok:=cP ⟨c2.prog,c2.w,c2.ν,c2.hG⟩ PG rfl 8
        have co:c2.Of ⟨c2.prog,c2.w,c2.ν,c2.hG⟩:=⟨rfl,rfl,rfl,rfl⟩
        have eo:aG c2 ρ1 (kS c.w.params) env:=eo
        have S1:c2.SR ρ1 (XQ m) s1:=S1
        have fin:∀ (ρ3:Nm) (s3:Shared) (T3:SS) (j:Int) (t:Tok),Ext ρT ρ3→c2.SR ρ3 T3 s3→(∃ so,T3.hp.get 0=some so∧ag so=false∧∀ o,OR c.w.params c1.ν ρ3 so o→OR c.w.params c.ν ρ (.dict [(26223,.ref l),(29793,.anyN)]) o)→aT s s3→0≤j→j<m→Q (.int j t) s3:=by
         intro ρ3 s3 T3 j t x3 S3 ⟨so0,t0,ts,tr⟩ sm3 hj0 hjm
         have S4:=SR.leave (S':=S3) (S:=ST) x3 hL
         have S5:c.SR ρ σ s3:=by
          refine SR.join (N:=N) (P:=c.w.params) S S4 (λk=>if k=n then .inl 0 else .inr k) (λk so hk=>?_) (λk k' so1 so2 hk hk' _ _ w=>?_) ?_ S.dom
          ·by_cases w:k=n
           ·subst w
            rw [hn] at hk; cases hk
            exact .inl ⟨0,so0,by simp,t0,λ_=>ts,λa' h=>by
             have:ρ3 0=some a:=x3 0 a (show (nxF k l 0).bind ρ=some a from ha)
             rw [this] at h; cases h; exact ha,tr⟩
           ·exact .inr ⟨k,so,by simp [w],w,hk,id,λa h=>h,λo h=>h⟩
          ·by_cases w1:k=n<;>by_cases w2:k'=n
           ·rw [w1,w2]
           ·simp [w1,w2] at w
           ·simp [w1,w2] at w
           ·simpa [w1,w2] using w
          ·obtain ⟨mm,hmm,hvv⟩:=S.loc
           exact ⟨mm,let ⟨o',h1,h2,_⟩:=S3.fzk c.L (iE oL) (.inr ⟨rfl,rfl⟩); Ns.i3 hmm hL h1 h2,hvv⟩
         refine hQ (.int (.c j)) σ ρ s3 _ ?_ (.refl _) S5 ⟨t,rfl⟩ sm3
         cases e
         exact List.mem_map.mpr ⟨j.toNat,List.mem_range.mpr (by omega),by rw [show ((j.toNat:Nat):Int)=j by omega]⟩
        have hz1:c2.fz bl (bF us kl):=.inl (.inr bz)
        have hT1:ρT 1=some bl:=b1
        rw [Jg c.w.params]
        refine bL (ok.S c2 ρ1 (kS c.w.params) env (ia c.w.params).s0 co rm eo (XQ m) _ (XS _ m) ρ1 s1 (.refl _) S1 _ _ λy σ2 ρ2 s2 fv hm2 x2 S2 r2 sm2=>?_)
        rcases aj hm2 with h
        cases h
        replace r2:fv=Flow.next:=r2
        subst r2
        refine bL (XW (c:=c2) PG rm (eo.mono x2) hm S2 ((x1.trans x2) _ _ hT1) ((S2.fzk _ _ hz1).to (kJ rfl)) hz1 hlen hint (by show 1≤sq c.ν i 201; unfold sq; simp; omega) _ rfl (λρ3 s3 x3 S3 sm3=>?_) (λρ3 s3 j t x3 S3 sm3 hj0 hjm=>?_))
        ·have S4:c2.SR ρ3 (RB m) s3:=by
          have S4:=S3.focus (T:=RB m) (N:=λ_=>False) (ν':=c2.ν) (ρ':=ρ3) (λk=>some k) (λk so hk=>?_) (λk k' j _ _ _ _ _ _ w w'=>?_) (λy sv hy=>⟨sv,hy,λv h=>h⟩) S3.dom
          ·exact ⟨λb o e=>S4.fzk b o (.inl e),S3.fc,S3.gk,S3.gd,S4.loc,λo e=>S4.Lf o (.inl e),λk so hk=>let ⟨a,o,h1,h2,h3,h4,h5⟩:=S4.hp k so hk; ⟨a,o,h1,h2,h3,h4,λhs o' q=>h5 hs o' (.inl q)⟩,S4.inj,S4.dom⟩
          ·obtain ⟨rfl,rfl⟩:=gO hk
           exact ⟨0,_,rfl,λw=>w,RG _,λ_=>rfl,λa h=>h,λa o _ _ w=>uk (by show 0≤sq c.ν i 201; unfold sq; simp; omega) (λa h=>h) w⟩
          ·cases w; cases w'; rfl
         refine bL (wpAny_Return_some (wpAny_BinOp (eR ok co rm (eo.mono (x2.trans x3)) (aAN _ m) S4 λρ5 s5 v5 x5 S5 r5 sm5=>eR ok co rm ((eo.mono (x2.trans x3)).mono x5) (XU _ m) S5 λρ6 s6 v6 x6 S6 r6 sm6=>?_)))
         obtain ⟨j5,t5,hj5,rfl⟩:=r5
         obtain ⟨t6,rfl⟩:=r6
         refine mod_int' (by show m≠0; omega) ?_
         exact fin ρ6 _ (RB m) _ _ ((x1.trans (x2.trans x3)).trans (x5.trans x6)) (S6.toks _) ⟨_,RG _,rfl,λo w=>Ji (λa h=>by
          have:=((x1.trans (x2.trans x3)).trans (x5.trans x6)) 1 bl hT1
          rw [this] at h; cases h; exact b1) w⟩ (sm1.trans (sm2.trans (sm3.trans (sm5.trans (sm6.trans (.mk _ _ _)))))) (Int.fmod_nonneg_of_pos _ hm) (Int.fmod_lt_of_pos _ hm)
        ·exact fin ρ3 _ (qo m) j t ((x1.trans x2).trans x3) S3 ⟨_,RG _,rfl,λo w=>uk (by show 0≤sq c.ν i 201; unfold sq; simp; omega) (λa h=>by
          have:=((x1.trans x2).trans x3) 1 bl hT1
          rw [this] at h; cases h; exact b1) w⟩ (sm1.trans (sm2.trans sm3)) hj0 hjm
    ·cases e
   ·cases e
  ·cases e
 ·cases e
noncomputable def dK (g:Pg) (a:Nat) (m:Nat→List SV→RM SV):Pg:={ g with sp:=(a,m)::g.sp }
noncomputable def F7 (hG:Heap) (a:Nat) (m:Nat→List SV→RM SV):Prop:=∀ (k:Nat) (c:Cx) (ρ:Nm) (xs:List SV) (vs:List Value),c.hG=hG→c.w.params=P→Rm c k→bX c.ν ρ xs vs→aJ c ρ (m k xs) (call (.ref a) vs) (VR c.ν)
theorem bC {g:Pg} {K:Frag} {mg mb:Str→Option Value} {h:Heap} {a:Nat} {m:Nat→List SV→RM SV} (PG:aY g K mg mb h) (hk:keepIn K (.ref a)=true) (hs:F7 g.pr h a m):aY (dK g a m) K mg mb h where
 G:=PG.G
 k:=PG.k
 glob:=PG.glob
 kt:=PG.kt
 cls:=PG.cls
 fns:=PG.fns
 isi:=PG.isi
 sp:=λb m' e=>by
  have e:lk ((a,m)::g.sp) b=some m':=e
  rw [aQ] at e
  by_cases q:a=b
  ·rw [if_pos q] at e
   cases e
   subst q
   exact ⟨hk,hs⟩
  ·rw [if_neg q] at e
   exact PG.sp b m' e
def nextM (k:Nat) (xs:List SV):RM SV:=cond (Nat.ble 10 k) (F4 xs) RM.bad
theorem F8 {P:Params} {mg mb:Str→Option Value} {h:Heap} (PG:aY (cG P) (KK P) mg mb h):F7 P h 686 nextM:=λk c ρ xs vs hG hw rm hv=>by
 subst hw
 subst hG
 refine aJ.guard λhk=>?_
 have rm:=rm.le (bK hk)
 exact F5 PG rm.stk rm.hh (by have:=rm.depth; omega) (by have:=rm.units; omega) hv
def NL:Pg:=dK (cG P) 686 nextM
theorem nk {P:Params} {mg mb:Str→Option Value} {h:Heap} (PG:aY (cG P) (KK P) mg mb h):aY (NL P) (KK P) mg mb h:=bC PG (M8 P).kp (F8 PG)
section
variable {D:Ds} {n:Nat} {lo:Lo} {c:Cx} {K:Frag} {mg mb:Str→Option Value}
theorem fnL (ok:bR D n lo) (co:c.Of D) (rm:Rm c (n+1)) (G:Gd K mg mb c.hG) {f:Addr} {d:bf} (F:aq K f d) {xs:List SV} {vs:List Value} {ρ:Nm} {σ:SS} {s:Shared} {outs:List (SV×SS)} (hv:bX c.ν ρ xs vs)
 (e:uY lo d xs σ=some outs) (S:c.SR ρ σ s) {Q E:Value→Shared→Prop}
 (hQ:∀ x σ' ρ' s' v,(x,σ')∈outs→Ext ρ ρ'→c.SR ρ' σ' s'→VR c.ν ρ' x v→aT s s'→(∀ m,s.heap.Ns c.L m→s'.heap.Ns c.L m)→Q v s'):wpAny c.M c.A (call (.ref f) vs) Q E s:=by
 exact wpAny_call (An ok co rm.stk rm.hh rm.d1 rm.u1 G F hv e S hQ)
end
noncomputable def CW (t:Nat→Option IT):IT→Option IT
 | .c i=>some (.c i)
 | .v n=>t n
noncomputable def dq (r:Nat→Option Nat) (t:Nat→Option IT):SV→Option SV
 | .int x=>(CW t x).map .int
 | .ref n=>(r n).map .ref
 | .none=>some .none
 | .bool b=>some (.bool b)
 | .str n=>some (.str n)
 | .kref n=>some (.kref n)
 | .ty n=>some (.ty n)
 | .bi n=>some (.bi n)
 | .anyN=>some .anyN
def nq (r:Nat→Option Nat) (t:Nat→Option IT) (l:List SV):Option (List SV):=List.rec (motive:=λ_=>Option (List SV)) (some []) (λx _ ih=>ob (dq r t x) λy=>ob ih λm=>some (y::m)) l
def yB (r:Nat→Option Nat) (t:Nat→Option IT) (l:List (Nat×SV)):Option (List (Nat×SV)):=List.rec (motive:=λ_=>Option (List (Nat×SV))) (some []) (λx _ ih=>ob (dq r t x.2) λy=>ob ih λm=>some ((x.1,y)::m)) l
def ib (r:Nat→Option Nat) (t:Nat→Option IT):SO→Option SO
 | .inst C d=>(r d).map (.inst C)
 | .dict es=>(yB r t es).map .dict
 | .list xs=>(nq r t xs).map .list
 | .tup xs=>(nq r t xs).map .tup
 | .rng n=>some (.rng n)
 | .ilist=>some .ilist
 | .cell none=>some (.cell none)
 | .cell (some v)=>(dq r t v).map λv=>.cell (some v)
section
variable {P:Params} {ν ν':Nat→Int} {ρ ρ':Nm} {r:Nat→Option Nat} {t:Nat→Option IT}
structure RH (ν ν':Nat→Int) (ρ ρ':Nm) (r:Nat→Option Nat) (t:Nat→Option IT):Prop where
 n:∀ n m,r n=some m→∀ a,ρ' n=some a→ρ m=some a
 t:∀ i u,t i=some u→ν' i=u.ev ν
structure NN (ν ν':Nat→Int) (ρ ρ':Nm) (r:Nat→Option Nat) (t:Nat→Option IT):Prop where
 n:∀ n m,r n=some m→∀ a,ρ m=some a→ρ' n=some a
 t:∀ i u,t i=some u→ν' i=u.ev ν
theorem A5 (h:∀ i u,t i=some u→ν' i=u.ev ν) {x y:IT} (e:CW t x=some y):x.ev ν'=y.ev ν:=by
 cases x with
 | c i=>cases e; rfl
 | v n=>exact h _ _ e
theorem fI (h:RH ν ν' ρ ρ' r t) {x y:SV} {v:Value} (e:dq r t x=some y) (hv:VR ν' ρ' x v):VR ν ρ y v:=by
 cases x with
 | int x =>
  obtain ⟨z,h1,rfl⟩:=bY e
  obtain ⟨k,rfl⟩:=hv
  exact ⟨k,by rw [A5 h.t h1]⟩
 | ref n =>
  obtain ⟨m,h1,rfl⟩:=bY e
  obtain ⟨a,h2,h3⟩:=hv
  exact ⟨a,h.n _ _ h1 _ h2,h3⟩
 | _=>exact aD e▸hv
theorem fJ (h:NN ν ν' ρ ρ' r t) {x y:SV} {v:Value} (e:dq r t x=some y) (hv:VR ν ρ y v):VR ν' ρ' x v:=by
 cases x with
 | int x =>
  obtain ⟨z,h1,rfl⟩:=bY e
  obtain ⟨k,rfl⟩:=hv
  exact ⟨k,by rw [A5 h.t h1]⟩
 | ref n =>
  obtain ⟨m,h1,rfl⟩:=bY e
  obtain ⟨a,h2,h3⟩:=hv
  exact ⟨a,h.n _ _ h1 _ h2,h3⟩
 | _=>rw [← aD e] at hv; exact hv
theorem nt {x:SV} {l ys:List SV} {C:Prop} (e:nq r t (x::l)=some ys) (k:∀ y m,dq r t x=some y→nq r t l=some m→ys=y::m→C):C :=
 aS e λy e1 e=>aS e λm e2 e=>k y m e1 e2 (aD e).symm
theorem nv {x:Nat×SV} {l ys:List (Nat×SV)} {C:Prop} (e:yB r t (x::l)=some ys) (k:∀ y m,dq r t x.2=some y→yB r t l=some m→ys=(x.1,y)::m→C):C :=
 aS e λy e1 e=>aS e λm e2 e=>k y m e1 e2 (aD e).symm
theorem cz {x y:SV} {l m:List SV} (e1:dq r t x=some y) (e2:nq r t l=some m):nq r t (x::l)=some (y::m):=by
 show ob (dq r t x) (λy=>ob (nq r t l) λm=>some (y::m))=_
 rw [e1,e2]; rfl
theorem sr {x:Nat×SV} {y:SV} {l m:List (Nat×SV)} (e1:dq r t x.2=some y) (e2:yB r t l=some m):yB r t (x::l)=some ((x.1,y)::m):=by
 show ob (dq r t x.2) (λy=>ob (yB r t l) λm=>some ((x.1,y)::m))=_
 rw [e1,e2]; rfl
theorem A6 (h:RH ν ν' ρ ρ' r t) {xs ys:List SV} {vs:List Value} (e:nq r t xs=some ys) (q:bX ν' ρ' xs vs):bX ν ρ ys vs :=
 q.ind (motive:=λxs vs=>∀ ys,nq r t xs=some ys→bX ν ρ ys vs) (λys e=>aD e▸trivial) (λx xs v vs h1 _ ih ys e=>nt e λy m e1 e2 e=>e▸⟨fI h e1 h1,ih m e2⟩) ys e
theorem Jj (h:RH ν ν' ρ ρ' r t) {xs ys:List (Nat×SV)} {vs:List DictEntry} (e:yB r t xs=some ys) (q:dk P ν' ρ' xs vs):dk P ν ρ ys vs :=
 q.ind (motive:=λxs vs=>∀ ys,yB r t xs=some ys→dk P ν ρ ys vs) (λys e=>aD e▸trivial) (λx xs v vs h1 _ ih ys e=>nv e λy m e1 e2 e=>e▸⟨⟨h1.1,h1.2.1,fI h e1 h1.2.2⟩,ih m e2⟩) ys e
theorem su (h:NN ν ν' ρ ρ' r t) {xs:List SV}:∀ {ys:List SV} {vs:List Value},nq r t xs=some ys→bX ν ρ ys vs→bX ν' ρ' xs vs:=by
 induction xs with
 | nil=>intro ys vs e q; rw [← aD e] at q; exact q.nl trivial
 | cons x l ih =>
  refine λe q=>nt e λy m e1 e2 e=>?_
  rw [e] at q
  exact q.un λv vs q1 q2=>⟨fJ h e1 q1,ih e2 q2⟩
theorem Jk (h:NN ν ν' ρ ρ' r t) {xs:List (Nat×SV)}:∀ {ys:List (Nat×SV)} {vs:List DictEntry},yB r t xs=some ys→dk P ν ρ ys vs→dk P ν' ρ' xs vs:=by
 induction xs with
 | nil=>intro ys vs e q; rw [← aD e] at q; rw [q.nF]; trivial
 | cons x l ih =>
  refine λe q=>nv e λy m e1 e2 e=>?_
  rw [e] at q
  exact q.un λv vs q1 q2=>⟨⟨q1.1,q1.2.1,fJ h e1 q1.2.2⟩,ih e2 q2⟩
theorem jU (h:RH ν ν' ρ ρ' r t) {x y:SO} {o:Obj} (e:ib r t x=some y) (hv:OR P ν' ρ' x o):OR P ν ρ y o:=by
 cases x with
 | inst C d =>
  obtain ⟨m,h1,rfl⟩:=bY e
  obtain ⟨a,h2,h3⟩:=hv
  exact ⟨a,h.n _ _ h1 _ h2,h3⟩
 | dict es =>
  obtain ⟨m,h1,rfl⟩:=bY e
  obtain ⟨es',h2,h3⟩:=hv
  exact ⟨es',h2,Jj h h1 h3⟩
 | list es =>
  obtain ⟨m,h1,rfl⟩:=bY e
  obtain ⟨vs,n,h2,h3⟩:=hv
  exact ⟨vs,n,h2,A6 h h1 h3⟩
 | tup es =>
  obtain ⟨m,h1,rfl⟩:=bY e
  obtain ⟨vs,n,h2,h3⟩:=hv
  exact ⟨vs,n,h2,A6 h h1 h3⟩
 | rng n | ilist=>exact aD e▸hv
 | cell v =>
  cases v with
  | none=>exact aD e▸hv
  | some v =>
   obtain ⟨m,h1,rfl⟩:=bY e
   obtain ⟨u,h2,h3⟩:=hv
   exact ⟨u,h2,fI h h1 h3⟩
theorem jV (h:NN ν ν' ρ ρ' r t) {x y:SO} {o:Obj} (e:ib r t x=some y) (hv:OR P ν ρ y o):OR P ν' ρ' x o:=by
 cases x with
 | inst C d =>
  obtain ⟨m,h1,rfl⟩:=bY e
  obtain ⟨a,h2,h3⟩:=hv
  exact ⟨a,h.n _ _ h1 _ h2,h3⟩
 | dict es =>
  obtain ⟨m,h1,rfl⟩:=bY e
  obtain ⟨es',h2,h3⟩:=hv
  exact ⟨es',h2,Jk h h1 h3⟩
 | list es =>
  obtain ⟨m,h1,rfl⟩:=bY e
  obtain ⟨vs,n,h2,h3⟩:=hv
  exact ⟨vs,n,h2,su h h1 h3⟩
 | tup es =>
  obtain ⟨m,h1,rfl⟩:=bY e
  obtain ⟨vs,n,h2,h3⟩:=hv
  exact ⟨vs,n,h2,su h h1 h3⟩
 | rng n | ilist=>rw [← aD e] at hv; exact hv
 | cell v =>
  cases v with
  | none=>rw [← aD e] at hv; exact hv
  | some v =>
   obtain ⟨m,h1,rfl⟩:=bY e
   obtain ⟨u,h2,h3⟩:=hv
   exact ⟨u,h2,fJ h h1 h3⟩
end
theorem cQ {r:Nat→Option Nat} {t:Nat→Option IT} {x y:SO} (e:ib r t x=some y):ag y=ag x:=by
 cases x with
 | inst C d=>obtain ⟨m,h1,rfl⟩:=bY e; rfl
 | dict es=>obtain ⟨m,h1,rfl⟩:=bY e; rfl
 | list es=>obtain ⟨m,h1,rfl⟩:=bY e; rfl
 | tup es=>obtain ⟨m,h1,rfl⟩:=bY e; rfl
 | rng n | ilist=>exact aD e▸rfl
 | cell v =>
  cases v with
  | none=>exact aD e▸rfl
  | some v=>obtain ⟨m,h1,rfl⟩:=bY e; rfl
def aL {α:Type} (b:Bool) (x y:α):α:=Bool.rec (motive:=λ_=>α) y x b
theorem aH {a b:Bool} (h:aL a b false=true):a=true∧b=true:=by cases a with
 | true=>exact ⟨rfl,h⟩
 | false=>cases h
noncomputable def F9:Int→Int→Bool
 | .ofNat a,.ofNat b=>Nat.beq a b
 | .negSucc a,.negSucc b=>Nat.beq a b
 | _,_=>false
theorem um {a b:Int} (h:F9 a b=true):a=b:=by
 cases a<;>cases b<;>first | (cases h; done) | skip
 ·exact congrArg Int.ofNat (ar h)
 ·exact congrArg Int.negSucc (ar h)
def qp (a b:IT):Bool:=IT.rec (motive:=λ_=>Bool) (λx=>IT.rec (motive:=λ_=>Bool) (λy=>F9 x y) (λ_=>false) b) (λx=>IT.rec (motive:=λ_=>Bool) (λ_=>false) (λy=>Nat.beq x y) b) a
theorem uo {a b:IT} (h:qp a b=true):a=b:=by
 cases a<;>cases b<;>first | exact absurd h Bool.false_ne_true | skip
 ·exact congrArg _ (um h)
 ·exact congrArg _ (ar h)
def jW (o:Option Nat) (m:Nat):Bool:=Option.rec (motive:=λ_=>Bool) false (λk=>Nat.beq k m) o
theorem fg {o:Option Nat} {m:Nat} (h:jW o m=true):o=some m:=by
 cases o with
 | none=>cases h
 | some k=>exact congrArg some (ar h)
def qIT (t:Nat→Option IT) (a b:IT):Bool:=IT.rec (motive:=λ_=>Bool) (λx=>IT.rec (motive:=λ_=>Bool) (λy=>F9 x y) (λ_=>false) b) (λn=>iX (t n) (λw=>qp w b) false) a
theorem RI {t:Nat→Option IT} {a b:IT} (h:qIT t a b=true):CW t a=some b:=by
 cases a with
 | c a =>
  cases b with
  | c b=>exact congrArg (λi=>some (IT.c i)) (um h)
  | v _=>cases h
 | v n =>
  show t n=some b
  have h':iX (t n) (λw=>qp w b) false=true:=by cases b<;>exact h
  revert h'
  exact eM (p:=λq=>q=true→t n=some b) (λw q h=>q.trans (congrArg some (uo h))) λh=>nomatch h
def Jl (x:SV):Nat:=SV.rec (motive:=λ_=>Nat) 0 (λ_=>1) (λ_=>2) (λ_=>3) (λ_=>4) (λ_=>5) (λ_=>6) (λ_=>7) 8 x
def qM (x:SV):Nat:=SV.rec (motive:=λ_=>Nat) 0 (λb=>Bool.rec (motive:=λ_=>Nat) 0 1 b) (λ_=>0) (λn=>n) (λn=>n) (λn=>n) (λn=>n) (λn=>n) 0 x
def ZI (x:SV):IT:=SV.rec (motive:=λ_=>IT) (.c 0) (λ_=>.c 0) (λt=>t) (λ_=>.c 0) (λ_=>.c 0) (λ_=>.c 0) (λ_=>.c 0) (λ_=>.c 0) (.c 0) x
def XX {α:Type} (l:List α) (d:α):Nat→α:=List.rec (motive:=λ_=>Nat→α) (λ_=>d) (λx _ ih k=>Nat.rec (motive:=λ_=>α) x (λk _=>ih k) k) l
def mkV (k n:Nat) (t:IT):SV:=XX [.none,.bool (Nat.beq n 1),.int t,.str n,.ref n,.kref n,.ty n,.bi n,.anyN] .none k
theorem RJ (x:SV):mkV (Jl x) (qM x) (ZI x)=x:=by
 cases x with
 | bool b=>cases b<;>rfl
 | _=>rfl
def Jm (r:Nat→Option Nat) (t:Nat→Option IT) (x y:SV):Bool:=aL (Nat.beq (Jl x) (Jl y))
 (SV.rec (motive:=λ_=>Bool) true (λb=>Nat.beq (qM (.bool b)) (qM y)) (λa=>qIT t a (ZI y)) (λn=>Nat.beq n (qM y)) (λn=>jW (r n) (qM y)) (λn=>Nat.beq n (qM y)) (λn=>Nat.beq n (qM y)) (λn=>Nat.beq n (qM y)) true x) false
theorem kT {r:Nat→Option Nat} {t:Nat→Option IT} {x y:SV} (h:Jm r t x y=true):dq r t x=some y:=by
 obtain ⟨h1,h2⟩:=aH h
 have e:mkV (Jl x) (qM y) (ZI y)=y:=by rw [ar h1]; exact RJ y
 generalize ZI y=ty at e h2
 generalize qM y=ny at e h2
 subst e
 clear h h1
 cases x with
 | bool b=>cases ar h2; cases b<;>rfl
 | int a =>
  show (CW t a).map SV.int=_
  rw [RI h2]; rfl
 | ref n =>
  show (r n).map SV.ref=_
  rw [fg h2]; rfl
 | none=>rfl
 | anyN=>rfl
 | _ n=>cases ar h2; rfl
def qN {α:Type} (l:List α):Bool:=List.rec (motive:=λ_=>Bool) true (λ_ _ _=>false) l
theorem A7 {α:Type} {l:List α} (h:qN l=true):l=[]:=by cases l with
 | nil=>rfl
 | cons _ _=>cases h
def qL (r:Nat→Option Nat) (t:Nat→Option IT) (xs:List SV):List SV→Bool :=
 List.rec (motive:=λ_=>List SV→Bool) qN (λx _ ih ys=>List.rec (motive:=λ_=>Bool) false (λy l _=>aL (Jm r t x y) (ih l) false) ys) xs
theorem GA {r:Nat→Option Nat} {t:Nat→Option IT} {xs:List SV}:∀ {ys:List SV},qL r t xs ys=true→nq r t xs=some ys:=by
 induction xs with
 | nil=>intro ys h; rw [A7 h]; rfl
 | cons x xs ih =>
  intro ys h
  cases ys with
  | nil=>exact nomatch h
  | cons y ys =>
   obtain ⟨q,h⟩:=aH (show aL (Jm r t x y) (qL r t xs ys) false=true from h)
   exact cz (kT q) (ih h)
def qE (r:Nat→Option Nat) (t:Nat→Option IT) (xs:List (Nat×SV)):List (Nat×SV)→Bool :=
 List.rec (motive:=λ_=>List (Nat×SV)→Bool) qN (λx _ ih ys=>List.rec (motive:=λ_=>Bool) false (λy l _=>aL (Nat.beq x.1 y.1) (aL (Jm r t x.2 y.2) (ih l) false) false) ys) xs
theorem XY {r:Nat→Option Nat} {t:Nat→Option IT} {xs:List (Nat×SV)}:∀ {ys:List (Nat×SV)},qE r t xs ys=true→yB r t xs=some ys:=by
 induction xs with
 | nil=>intro ys h; rw [A7 h]; rfl
 | cons x xs ih =>
  intro ys h
  cases ys with
  | nil=>exact nomatch h
  | cons y ys =>
   obtain ⟨q0,h⟩:=aH (show aL (Nat.beq x.1 y.1) (aL (Jm r t x.2 y.2) (qE r t xs ys) false) false=true from h)
   obtain ⟨q,h⟩:=aH h
   rw [sr (kT q) (ih h),ar q0]
def Jn (x:SO):Nat:=SO.rec (motive:=λ_=>Nat) (λ_ _=>0) (λ_=>1) (λ_=>2) (λ_=>3) (λ_=>4) 5 (λv=>Option.rec (motive:=λ_=>Nat) 6 (λ_=>7) v) x
def GB (x:SO):Nat:=SO.rec (motive:=λ_=>Nat) (λC _=>C) (λ_=>0) (λ_=>0) (λ_=>0) (λn=>n) 0 (λ_=>0) x
def ZJ (x:SO):Nat:=SO.rec (motive:=λ_=>Nat) (λ_ d=>d) (λ_=>0) (λ_=>0) (λ_=>0) (λ_=>0) 0 (λ_=>0) x
def ZK (x:SO):List (Nat×SV):=SO.rec (motive:=λ_=>List (Nat×SV)) (λ_ _=>[]) (λes=>es) (λ_=>[]) (λ_=>[]) (λ_=>[]) [] (λ_=>[]) x
def XZ (x:SO):List SV:=SO.rec (motive:=λ_=>List SV) (λ_ _=>[]) (λ_=>[]) (λxs=>xs) (λxs=>xs) (λ_=>[]) [] (λ_=>[]) x
def ZL (x:SO):SV:=SO.rec (motive:=λ_=>SV) (λ_ _=>.none) (λ_=>.none) (λ_=>.none) (λ_=>.none) (λ_=>.none) .none (λv=>Option.rec (motive:=λ_=>SV) .none (λv=>v) v) x
def mkO (k a b:Nat) (es:List (Nat×SV)) (xs:List SV) (v:SV):SO:=XX [.inst a b,.dict es,.list xs,.tup xs,.rng a,.ilist,.cell none,.cell (some v)] .ilist k
theorem RK (x:SO):mkO (Jn x) (GB x) (ZJ x) (ZK x) (XZ x) (ZL x)=x:=by
 cases x with
 | cell v=>cases v<;>rfl
 | _=>rfl
def Xa (r:Nat→Option Nat) (t:Nat→Option IT) (x y:SO):Bool:=aL (Nat.beq (Jn x) (Jn y))
 (SO.rec (motive:=λ_=>Bool) (λC d=>aL (Nat.beq C (GB y)) (jW (r d) (ZJ y)) false) (λes=>qE r t es (ZK y)) (λxs=>qL r t xs (XZ y)) (λxs=>qL r t xs (XZ y)) (λn=>Nat.beq n (GB y)) true (λv=>Option.rec (motive:=λ_=>Bool) true (λv=>Jm r t v (ZL y)) v) x) false
theorem sx {r:Nat→Option Nat} {t:Nat→Option IT} {x y:SO} (h:Xa r t x y=true):ib r t x=some y:=by
 obtain ⟨h1,h2⟩:=aH h
 have e:mkO (Jn x) (GB y) (ZJ y) (ZK y) (XZ y) (ZL y)=y:=by rw [ar h1]; exact RK y
 generalize GB y=ay at e h2
 generalize ZJ y=by' at e h2
 generalize ZK y=ey at e h2
 generalize XZ y=xy at e h2
 generalize ZL y=vy at e h2
 subst e
 clear h h1
 cases x with
 | inst C d =>
  obtain ⟨q,h3⟩:=aH h2
  cases ar q
  show (r d).map (SO.inst _)=_
  rw [fg h3]; rfl
 | dict es =>
  show (yB r t es).map SO.dict=_
  rw [XY h2]; rfl
 | list xs =>
  show (nq r t xs).map SO.list=_
  rw [GA h2]; rfl
 | tup xs =>
  show (nq r t xs).map SO.tup=_
  rw [GA h2]; rfl
 | rng n=>cases ar h2; rfl
 | ilist=>rfl
 | cell v =>
  cases v with
  | none=>rfl
  | some v =>
   show (dq r t v).map (λv=>SO.cell (some v))=_
   rw [kT h2]; rfl
theorem mu {x:SV}:dq some (λn=>some (.v n)) x=some x:=by
 cases x with
 | int x=>cases x<;>rfl
 | _=>rfl
theorem GC {x:List SV}:nq some (λn=>some (.v n)) x=some x:=by
 induction x with
 | nil=>rfl
 | cons x l ih=>exact cz mu ih
theorem RL {x:List (Nat×SV)}:yB some (λn=>some (.v n)) x=some x:=by
 induction x with
 | nil=>rfl
 | cons x l ih=>exact sr mu ih
theorem Jo {x:SO}:ib some (λn=>some (.v n)) x=some x:=by
 cases x with
 | inst C d=>rfl
 | dict es=>show (yB _ _ es).map SO.dict=_; rw [RL]; rfl
 | list es=>show (nq _ _ es).map SO.list=_; rw [GC]; rfl
 | tup es=>show (nq _ _ es).map SO.tup=_; rw [GC]; rfl
 | rng n=>rfl
 | ilist=>rfl
 | cell v=>cases v with
  | none=>rfl
  | some v=>show (dq _ _ v).map (λv=>SO.cell (some v))=_; rw [mu]; rfl
def RN (a b:SV):Bool:=Jm some (λn=>some (.v n)) a b
def Xb (a b:SO):Bool:=Xa some (λn=>some (.v n)) a b
theorem Jp {a b:SV} (h:RN a b=true):a=b:=aD (mu.symm.trans (kT h))
theorem Jq {a b:SO} (h:Xb a b=true):a=b:=aD (Jo.symm.trans (sx h))
def qO (l:List (Nat×SO)) (h:Hp):Hp:=List.rec (motive:=λ_=>Hp) h (λp _ ih=>ih.put p.1 p.2) l
theorem nz {h:Hp} {n:Nat} {l:List (Nat×SO)}:(∀ p∈l,p.1<1024)→(qO l h).get n=match lk l n with | some so=>some so | none=>h.get n:=by
 induction l with
 | nil=>exact λ_=>rfl
 | cons p r ih =>
  intro hl
  show ((qO r h).put p.1 p.2).get n=_
  rw [Hp.d6 (hl p (.head _)),aQ,ih λq hq=>hl q (.tail _ hq)]
  by_cases e:p.1=n
  ·rw [if_pos e,if_pos e.symm]
  ·rw [if_neg e,if_neg λw=>e w.symm]
theorem yf {α:Type} {l:List (Nat×α)} {p:Nat×α}:p∈l→∃ v,lk l p.1=some v:=by
 induction l with
 | nil=>exact λh=>nomatch h
 | cons q r ih =>
  intro h
  rw [aQ]
  by_cases e:q.1=p.1
  ·exact ⟨_,if_pos e⟩
  ·rw [if_neg e]
   exact fY h (λw=>absurd (congrArg (·.1) w.symm) e) ih
theorem GD {a b:Bool} {C:Prop} (h:aL a b false=true) (k:a=true→b=true→C):C:=k (aH h).1 (aH h).2
def af {α:Type} (f:α→Bool) (l:List α):Bool:=List.rec (motive:=λ_=>Bool) true (λp _ ih=>aL (f p) ih false) l
theorem aE {α:Type} {f:α→Bool} {l:List α}:af f l=true→∀ p∈l,f p=true:=by
 induction l with
 | nil=>exact λ_ _ h=>nomatch h
 | cons q r ih=>exact λh p hp=>GD h λe h=>memC hp e (ih h p)
def bP {α:Type} (l:List (Nat×α)):Bool:=List.rec (motive:=λ_=>Bool) true (λp r ih=>aL (af (λq=>aL (Nat.beq q.1 p.1) false true) r) ih false) l
theorem aI {α:Type} {l:List (Nat×α)}:bP l=true→∀ p∈l,lk l p.1=some p.2:=by
 induction l with
 | nil=>exact λ_ _ h=>nomatch h
 | cons q r ih =>
  refine λh p hp=>GD h λe h=>?_
  rw [aQ]
  refine fY hp (λw=>by rw [w,if_pos rfl]) λhp=>?_
  have ne:¬ q.1=p.1:=λw=>by
   have:=aE e p hp
   rw [← w,Nat.beq_refl] at this; exact nomatch this
  rw [if_neg ne]
  exact ih h p hp
structure Smo where
 ret:SV
 chg:List (Nat×SO)
 nw:List (Nat×SO)
structure Sm where
 xs:List SV
 T:List (Nat×SO)
 nx:Nat
 outs:List Smo
def Sm.st (sm:Sm):SS:=⟨[],qO sm.T ⟨.e⟩,sm.nx⟩
def qr (h:Hp) (p:Nat×SO):Bool:=Option.rec (motive:=λ_=>Bool) false (λso=>Xb p.2 so) (h.get p.1)
theorem n5 {h:Hp} {p:Nat×SO} (e:qr h p=true):h.get p.1=some p.2:=by
 unfold qr at e
 cases q:h.get p.1 with
 | none=>rw [q] at e; cases e
 | some so=>rw [q] at e; rw [Jq e]
def bS {α:Type} (l:List (Nat×α)) (k:Nat):Bool:=Option.rec (motive:=λ_=>Bool) false (λ_=>true) (lk l k)
def GF (T:List (Nat×SO)) (p:SV×SS) (o:Smo):Bool :=
 aL (RN p.1 o.ret) (aL (af (qr p.2.hp) o.chg) (aL (af (qr p.2.hp) o.nw) (af (λq=>aL (bS o.chg q.1) true (qr p.2.hp q)) T) false) false) false
def n6 {α:Type} (f:α→Bool) (l:List α):Bool:=List.rec (motive:=λ_=>Bool) false (λp _ ih=>aL (f p) true ih) l
theorem iQ {α:Type} {f:α→Bool} {l:List α}:n6 f l=true→∃ p∈l,f p=true:=by
 induction l with
 | nil=>exact λh=>nomatch h
 | cons q r ih =>
  intro h
  have h:aL (f q) true (n6 f r)=true:=h
  cases e:f q with
  | true=>exact ⟨q,.head _,e⟩
  | false =>
   rw [e] at h
   exact (ih h).elim λp w=>⟨p,.tail _ w.1,w.2⟩
def uq (sm:Sm):Bool:=aL (Nat.ble sm.nx 1024) (aL (af (λp=>Nat.blt p.1 sm.nx) sm.T) (aL (bP sm.T) (af (λo=>aL (bP o.chg) (aL (af (λp=>Option.rec (motive:=λ_=>Bool) false (λso=>aL (ag so) false true) (lk sm.T p.1)) o.chg) (af (λp=>Nat.ble sm.nx p.1) o.nw) false) false) sm.outs) false) false) false
def aK (lo:Lo) (d:bf) (sm:Sm):Bool:=aL (uq sm) (Option.rec (motive:=λ_=>Bool) false (λl=>af (λp=>n6 (GF sm.T p) sm.outs) l) (uY lo d sm.xs sm.st)) false
structure If where
 em:List (Nat×Nat)
 tm:List (Nat×IT)
 wk:List (Nat×Nat)
def Jr (p v:SV) (st:If):Option If:=match p with
 | .ref n=>(match v with
  | .ref m=>(match lk st.em n with
   | some k=>aL (Nat.beq k m) (some st) none
   | none=>some ⟨(n,m)::st.em,st.tm,(n,m)::st.wk⟩)
  | _=>none)
 | .int (.v i)=>(match v with
  | .int u=>(match lk st.tm i with
   | some w=>aL (qp w u) (some st) none
   | none=>some ⟨st.em,(i,u)::st.tm,st.wk⟩)
  | _=>none)
 | p=>aL (RN p v) (some st) none
def RO (xs:List SV):List SV→If→Option If:=List.rec (motive:=λ_=>List SV→If→Option If) (λys st=>aL (qN ys) (some st) none)
 (λx _ ih ys st=>List.rec (motive:=λ_=>Option If) none (λy l _=>Option.rec (motive:=λ_=>Option If) none (λst'=>ih l st') (Jr x y st)) ys) xs
def aAQ (xs:List (Nat×SV)):List (Nat×SV)→If→Option If:=List.rec (motive:=λ_=>List (Nat×SV)→If→Option If) (λys st=>aL (qN ys) (some st) none)
 (λx _ ih ys st=>List.rec (motive:=λ_=>Option If) none (λy l _=>aL (Nat.beq x.1 y.1) (Option.rec (motive:=λ_=>Option If) none (λst'=>ih l st') (Jr x.2 y.2 st)) none) ys) xs
def aAR (a b:SO) (st:If):Option If:=match a,b with
 | .inst C d,.inst C' d'=>aL (Nat.beq C C') (Jr (.ref d) (.ref d') st) none
 | .dict a,.dict b=>aAQ a b st
 | .list a,.list b=>RO a b st
 | .tup a,.tup b=>RO a b st
 | .rng a,.rng b=>aL (Nat.beq a b) (some st) none
 | .ilist,.ilist=>some st
 | .cell none,.cell none=>some st
 | .cell (some a),.cell (some b)=>Jr a b st
 | _,_=>none
def aAS (T:List (Nat×SO)) (H:Hp) (f:Nat):If→Option If:=Nat.rec (motive:=λ_=>If→Option If) (λ_=>none)
 (λ_ ih st=>List.rec (motive:=λ_=>Option If) (some st) (λq r _=>Option.rec (motive:=λ_=>Option If) (ih ⟨st.em,st.tm,r⟩)
  (λso=>Option.rec (motive:=λ_=>Option If) none (λso'=>Option.rec (motive:=λ_=>Option If) none (λst'=>ih st') (aAR so so' ⟨st.em,st.tm,r⟩)) (H.get q.2)) (lk T q.1)) st.wk) f
def inf (sm:Sm) (xs:List SV) (H:Hp):Option If:=Option.rec (motive:=λ_=>Option If) none (λst=>aAS sm.T H 200 st) (RO sm.xs xs ⟨[],[],[]⟩)
noncomputable def fh:IT→Bool
 | .c (.ofNat n)=>Nat.ble n 9
 | .c (.negSucc n)=>Nat.ble n 8
 | .v n=>Nat.blt n 100
def n7 (r:Nat→Option Nat) (l:List (Nat×SO)):Nat→Bool:=List.rec (motive:=λ_=>Nat→Bool) (λ_=>true)
 (λp _ ih k=>aL (ag p.2) (ih k) (Option.rec (motive:=λ_=>Bool) false (λm=>aL (Nat.beq (Nat.land (Nat.shiftRight k m) 1) 1) false (ih (Nat.lor k (Nat.shiftLeft 1 m)))) (r p.1))) l
def aAT (em:List (Nat×Nat)) (l:List (Nat×SO)):Bool:=n7 (lk em) l 0
def atB (em:List (Nat×Nat)) (tm:List (Nat×IT)) (H:Hp) (p:Nat×SO):Bool:=Option.rec (motive:=λ_=>Bool) false (λm=>Option.rec (motive:=λ_=>Bool) false (λso=>Xa (lk em) (lk tm) p.2 so) (H.get m)) (lk em p.1)
def RP (sm:Sm) (em:List (Nat×Nat)) (tm:List (Nat×IT)) (xs:List SV) (σ:SS):Bool :=
 aL (qL (lk em) (lk tm) sm.xs xs) (aL (af (atB em tm σ.hp) sm.T) (aL (aAT em sm.T) (aL (af (λq=>aL (Nat.blt q.1 sm.nx) (Nat.blt q.2 σ.nx) false) em) (af (λq=>aL (Nat.blt q.1 100) (fh q.2) false) tm) false) false) false) false
def CX (l:List (Nat×SO)):Nat→List (Nat×Nat):=List.rec (motive:=λ_=>Nat→List (Nat×Nat)) (λ_=>[]) (λp _ ih b=>(p.1,b)::ih (b+1)) l
def qP (l:List (Nat×SO)):Nat→List (Nat×Nat):=List.rec (motive:=λ_=>Nat→List (Nat×Nat)) (λ_=>[]) (λp _ ih b=>(b,p.1)::ih (b+1)) l
def rnP (r:Nat→Option Nat) (t:Nat→Option IT) (l:List (Nat×SO)):Option (List (Nat×SO)) :=
 List.rec (motive:=λ_=>Option (List (Nat×SO))) (some []) (λp _ ih=>ob (r p.1) λm=>ob (ib r t p.2) λso=>ob ih λq=>some ((m,so)::q)) l
def GG (em:List (Nat×Nat)) (tm:List (Nat×IT)) (σ:SS) (o:Smo):Option (SV×SS) :=
 ob (dq (lk (CX o.nw σ.nx++em)) (lk tm) o.ret) λv=>ob (rnP (lk (CX o.nw σ.nx++em)) (lk tm) (o.chg++o.nw)) λL=>aL (Nat.ble (σ.nx+o.nw.length) 1024) (some (v,⟨σ.loc,qO L σ.hp,σ.nx+o.nw.length⟩)) none
def RR {α β:Type} (f:α→Option β) (l:List α):Option (List β) :=
 List.rec (motive:=λ_=>Option (List β)) (some []) (λa _ ih=>ob (f a) λb=>ob ih λm=>some (b::m)) l
theorem GH {α β:Type} {f:α→Option β} {l:List α}:∀ {m:List β},RR f l=some m→∀ a∈l,∃ b∈m,f a=some b:=by
 induction l with
 | nil=>exact λ_ _ h=>nomatch h
 | cons a l ih =>
  refine λe x hx=>aS e λb h1 e=>aS e λm' h2 e=>?_
  cases e
  exact memC hx ⟨b,.head _,h1⟩ λhx=>(ih h2 x hx).elim λy w=>⟨y,.tail _ w.1,w.2⟩
def lF (sm:Sm) (xs:List SV):RM SV:=λσ=>ob (inf sm xs σ.hp) λst=>aL (RP sm st.em st.tm xs σ) (RR (GG st.em st.tm σ) sm.outs) none
theorem CY {p:Nat×SO} {r:List (Nat×SO)} {b:Nat}:CX (p::r) b=(p.1,b)::CX r (b+1):=rfl
theorem qt {p:Nat×SO} {r:List (Nat×SO)} {b:Nat}:qP (p::r) b=(b,p.1)::qP r (b+1):=rfl
theorem qu {l:List (Nat×SO)} {k m:Nat}:∀ {b:Nat},lk (CX l b) k=some m→lk (qP l b) m=some k∧b≤m∧m<b+l.length∧∃ so,(k,so)∈l:=by
 induction l with
 | nil=>exact λe=>nomatch e
 | cons p r ih =>
  intro b e
  rw [CY,aQ] at e
  rw [qt,aQ]
  by_cases h:p.1=k
  ·rw [if_pos h] at e
   cases e
   rw [if_pos rfl,h]
   exact ⟨rfl,Nat.le_refl _,Nat.lt_add_of_pos_right (Nat.succ_pos _),p.2,h▸.head _⟩
  ·rw [if_neg h] at e
   obtain ⟨h1,h2,h3,so,h4⟩:=ih e
   rw [if_neg (Nat.ne_of_lt h2)]
   exact ⟨h1,Nat.le_of_succ_le h2,Nat.succ_add_eq_add_succ b _▸h3,so,.tail _ h4⟩
theorem Js {l:List (Nat×SO)} {k m:Nat}:∀ {b:Nat},lk (qP l b) m=some k→m<b+l.length:=by
 induction l with
 | nil=>exact λe=>nomatch e
 | cons p r ih =>
  intro b e
  rw [qt,aQ] at e
  by_cases h:b=m
  ·exact h▸Nat.lt_add_of_pos_right (Nat.succ_pos _)
  ·rw [if_neg h] at e
   exact Nat.succ_add_eq_add_succ b _▸ih e
theorem qv {α:Type} {l m:List (Nat×α)} {k:Nat}:lk (l++m) k=match lk l k with | some v=>some v | none=>lk m k:=by
 induction l with
 | nil=>rfl
 | cons p r ih =>
  rw [List.cons_append,aQ,aQ]
  by_cases h:p.1=k
  ·rw [if_pos h,if_pos h]
  ·rw [if_neg h,if_neg h,ih]
theorem sy {r:Nat→Option Nat} {t:Nat→Option IT} {l:List (Nat×SO)}:∀ {L:List (Nat×SO)},rnP r t l=some L→(∀ q∈L,∃ p∈l,r p.1=some q.1∧ib r t p.2=some q.2)∧∀ p∈l,∃ q∈L,r p.1=some q.1:=by
 induction l with
 | nil=>exact λe=>by cases e; exact ⟨λ_ h=>(nomatch h),λ_ h=>nomatch h⟩
 | cons p l ih =>
  refine λe=>aS e λm h1 e=>aS e λso h2 e=>aS e λL' h3 e=>?_
  cases e
  exact ⟨λq hq=>memC hq ⟨p,.head _,h1,h2⟩ λhq=>((ih h3).1 q hq).elim λy w=>⟨y,.tail _ w.1,w.2⟩,λx hx=>memC hx ⟨_,.head _,h1⟩ λhx=>((ih h3).2 x hx).elim λy w=>⟨y,.tail _ w.1,w.2⟩⟩
theorem RS {k m:Nat} (h:Nat.beq (Nat.land (Nat.shiftRight k m) 1) 1=false):k.testBit m=false:=by
 cases q:k.testBit m with
 | false=>rfl
 | true =>
  exfalso
  have:(k >>> m) % 2=1:=by
   rw [Nat.testBit_eq_decide_div_mod_eq] at q
   rw [Nat.shiftRight_eq_div_pow]
   exact of_decide_eq_true q
  have e:Nat.land (Nat.shiftRight k m) 1=1:=by
   show (k >>> m) &&& 1=1
   rw [Nat.and_one_is_mod]
   exact this
  rw [e] at h
  cases h
theorem sz {k m m':Nat} (h:(Nat.lor k (Nat.shiftLeft 1 m)).testBit m'=false):k.testBit m'=false∧m'≠m:=by
 have h:(k ||| (1 <<< m)).testBit m'=false:=h
 rw [Nat.testBit_or,Bool.or_eq_false_iff] at h
 refine ⟨h.1,λe=>?_⟩
 subst e
 have:=h.2
 rw [Nat.testBit_shiftLeft] at this
 simp at this
theorem qw {em:Nat→Option Nat} {x:Nat×SO} {tl:List (Nat×SO)} {k:Nat} (h:n7 em (x::tl) k=true):(ag x.2=true∧n7 em tl k=true)∨∃ m,em x.1=some m∧k.testBit m=false∧n7 em tl (Nat.lor k (Nat.shiftLeft 1 m))=true:=by
 have h:aL (ag x.2) (n7 em tl k) (Option.rec (motive:=λ_=>Bool) false (λm=>aL (Nat.beq (Nat.land (Nat.shiftRight k m) 1) 1) false (n7 em tl (Nat.lor k (Nat.shiftLeft 1 m)))) (em x.1):Bool)=true:=h
 cases hs:ag x.2 with
 | true=>rw [hs] at h; exact .inl ⟨rfl,h⟩
 | false =>
 rw [hs] at h
 have h:(Option.rec (motive:=λ_=>Bool) false (λm=>aL (Nat.beq (Nat.land (Nat.shiftRight k m) 1) 1) false (n7 em tl (Nat.lor k (Nat.shiftLeft 1 m)))) (em x.1):Bool)=true:=h
 cases w:em x.1 with
 | none=>rw [w] at h; cases h
 | some m =>
  rw [w] at h
  have h:aL (Nat.beq (Nat.land (Nat.shiftRight k m) 1) 1) false (n7 em tl (Nat.lor k (Nat.shiftLeft 1 m)))=true:=h
  cases q:Nat.beq (Nat.land (Nat.shiftRight k m) 1) 1 with
  | true=>rw [q] at h; cases h
  | false=>rw [q] at h; exact .inr ⟨m,rfl,RS q,h⟩
theorem qx {em:Nat→Option Nat} {l:List (Nat×SO)} {p:Nat×SO} {m:Nat} (hs:ag p.2=false) (e:em p.1=some m):∀ {k:Nat},n7 em l k=true→p∈l→k.testBit m=false:=by
 induction l with
 | nil=>exact λ_ h=>nomatch h
 | cons x tl ih =>
  intro k h hp
  rcases qw h with ⟨h1,h3⟩ | ⟨m',h1,h2,h3⟩
  ·exact fY hp (λhp=>by rw [hp,h1] at hs; cases hs) (ih h3)
  ·refine fY hp (λhp=>?_) λhp=>(sz (ih h3 hp)).1
   rw [hp,h1] at e; cases e; exact h2
theorem A8 {em:Nat→Option Nat} {l:List (Nat×SO)} {p q:Nat×SO} {m:Nat} (s1:ag p.2=false) (s2:ag q.2=false) (e1:em p.1=some m) (e2:em q.1=some m):∀ {k:Nat},n7 em l k=true→p∈l→q∈l→p.1=q.1:=by
 induction l with
 | nil=>exact λ_ h=>nomatch h
 | cons x tl ih =>
  intro k h hp hq
  rcases qw h with ⟨h1,h3⟩ | ⟨m',h1,h2,h3⟩
  ·exact fY hp (λw=>by rw [w,h1] at s1; cases s1) λhp=>fY hq (λw=>by rw [w,h1] at s2; cases s2) (ih h3 hp)
  ·refine fY hp (λhp=>fY hq (λhq=>by rw [hp,hq]) λhq=>?_) λhp=>fY hq (λhq=>?_) (ih h3 hp)
   ·rw [hp,h1] at e1; cases e1
    exact absurd rfl (sz (qx s2 e2 h3 hq)).2
   ·rw [hq,h1] at e2; cases e2
    exact absurd rfl (sz (qx s1 e1 h3 hp)).2
theorem qy {ν:Nat→Int} (h:∀ n,n<100→-9≤ν n∧ν n≤9) {u:IT} (e:fh u=true):-9≤u.ev ν∧u.ev ν≤9:=by
 cases u with
 | c i =>
  cases i with
  | ofNat n=>have:=bK e; show -9≤(n:Int)∧(n:Int)≤9; omega
  | negSucc n=>have:=bK e; show -9≤Int.negSucc n∧Int.negSucc n≤9; rw [Int.negSucc_eq]; omega
 | v n=>exact h n (aC.mp e)
def RT (T:List (Nat×SO)) (em:List (Nat×Nat)) (m:Nat):Option Nat:=(T.find? λp=>jW (lk em p.1) m).map (·.1)
theorem ur {T:List (Nat×SO)} {em:List (Nat×Nat)} {m k:Nat} (h:RT T em m=some k):∃ so,(k,so)∈T∧lk em k=some m:=by
 obtain ⟨p,h1,rfl⟩:=bY h
 exact ⟨p.2,List.mem_of_find?_eq_some h1,fg (by have:=List.find?_some h1; exact this)⟩
theorem uu {T:List (Nat×SO)} {em:List (Nat×Nat)} {m:Nat} (h:RT T em m=none):∀ p∈T,lk em p.1≠some m:=by
 intro p hp e
 have:=List.find?_eq_none.mp (Option.map_eq_none_iff.mp h) p hp
 rw [e] at this
 apply this
 exact Nat.beq_refl m
def uv (ν:Nat→Int) (tm:List (Nat×IT)):Nat→Int:=λi=>if i<100 then (match lk tm i with | some u=>u.ev ν | none=>0) else if i=201 then 1 else 0
def CZ (ρ:Nm) (em:List (Nat×Nat)) (nx:Nat):Nm:=λk=>if k<nx then some (((lk em k).bind ρ).getD 0) else none
theorem A9 {l:List (Nat×SO)} {n:Nat} {so:SO} (hl:∀ p∈l,p.1<1024) (e:(qO l ⟨.e⟩).get n=some so):lk l n=some so:=by
 rw [nz hl] at e
 split at e
 ·rename_i so' q; cases e; exact q
 ·have:(⟨.e⟩:Hp).get n=none:=by rw [Hp.get_eq,Tr.uE]; cases Nat.blt n 1024<;>rfl
  rw [this] at e; cases e
def qQ (ρ ρ1:Nm) (nx:Nat) (nw:List (Nat×SO)):Nm:=λm=>if m<nx then some ((ρ m).getD 0) else (lk (qP nw nx) m).bind ρ1
def RU (nx:Nat) (T:List (Nat×SO)) (em:List (Nat×Nat)) (nw:List (Nat×SO)) (m:Nat):Sum Nat Nat:=if m<nx then Option.rec (motive:=λ_=>Sum Nat Nat) (.inr m) (λk=>.inl k) (RT T em m) else .inl ((lk (qP nw nx) m).getD 0)
section
variable {nx:Nat} {T:List (Nat×SO)} {em:List (Nat×Nat)} {nw:List (Nat×SO)} {m k:Nat}
theorem BA (h:m<nx) (e:RT T em m=some k):RU nx T em nw m=.inl k:=by unfold RU; rw [if_pos h,e]
theorem Jt (h:m<nx) (e:RT T em m=none):RU nx T em nw m=.inr m:=by unfold RU; rw [if_pos h,e]
theorem RV (h:nx≤m) (e:lk (qP nw nx) m=some k):RU nx T em nw m=.inl k:=by unfold RU; rw [if_neg (Nat.not_lt.mpr h),e]; rfl
theorem uw {ρ ρ1:Nm} (h:m<nx):qQ ρ ρ1 nx nw m=some ((ρ m).getD 0):=by unfold qQ; rw [if_pos h]
theorem ux {ρ ρ1:Nm} (h:nx≤m):qQ ρ ρ1 nx nw m=(lk (qP nw nx) m).bind ρ1:=by unfold qQ; rw [if_neg (Nat.not_lt.mpr h)]
theorem GI {ν:Nat→Int} {tm:List (Nat×IT)} {i:Nat} (h:i<100):uv ν tm i=match lk tm i with | some u=>u.ev ν | none=>0:=by unfold uv; rw [if_pos h]
theorem Xc {ν:Nat→Int} {tm:List (Nat×IT)}:uv ν tm 201=uv ν tm 200+1:=by unfold uv; rw [if_neg (by decide),if_pos rfl,if_neg (by decide),if_neg (by decide)]; rfl
end
inductive Told (ν1 ν:Nat→Int) (P:Params) (ρ1 ρ2:Nm) (R:List (Nat×Nat)) (gg:Nat→Sum Nat Nat) (σ1 σ:SS) (N:Nat→Prop) (m:Nat) (so:SO):Prop
 | old (k:Nat) (so0:SO) (h1:lk R k=some m) (h2:gg m=.inl k) (h3:σ1.hp.get k=some so0) (h4:ag so=ag so0) (h5:∀ ob,OR P ν1 ρ1 so0 ob→OR P ν ρ2 so ob):Told ν1 ν P ρ1 ρ2 R gg σ1 σ N m so
 | free (h1:gg m=.inr m) (h2:N m) (h3:σ.hp.get m=some so):Told ν1 ν P ρ1 ρ2 R gg σ1 σ N m so
theorem Ju {n:Nat} {g:Pg} {c:Cx} {K:Frag} {mg mb:Str→Option Value} (PG:aY g K mg mb c.hG) (hw:c.w.params=g.pr) (rm:Rm c (n+1)) {f:Addr} {d:bf} (F:aq K f d) {sm:Sm} (so:aK (ai g n) d sm=true)
 {ρ₀:Nm} {xs:List SV} {vs:List Value} (hv:bX c.ν ρ₀ xs vs):aJ c ρ₀ (lF sm xs) (call (.ref f) vs) (VR c.ν):=by
 intro σ outs e ρ s x S Q E hQ
 replace hv:=hv.mono x
 refine ZR λG hG=>?_
 unfold lF at e
 ·refine aS e λst _ e=>?_
  obtain ⟨em,tm,wk⟩:=st
  dsimp only at e
  cases hc:RP sm em tm xs σ with
  | false=>rw [hc] at e; cases e
  | true =>
  rw [hc] at e
  have e:RR (GG em tm σ) sm.outs=some outs:=e
  unfold RP at hc
  obtain ⟨c1,hc⟩:=aH hc
  obtain ⟨c2,hc⟩:=aH hc
  obtain ⟨c3,hc⟩:=aH hc
  obtain ⟨c4,c5⟩:=aH hc
  unfold aK at so
  obtain ⟨st,so⟩:=aH so
  unfold uq at st
  obtain ⟨s1,st⟩:=aH st
  obtain ⟨s2,st⟩:=aH st
  obtain ⟨s3,s4⟩:=aH st
  have s1:=bK s1
  have tlt:∀ p∈sm.T,p.1<sm.nx:=λp hp=>aC.mp (aE s2 p hp)
  have tlt':∀ p∈sm.T,p.1<1024:=λp hp=>Nat.lt_of_lt_of_le (tlt p hp) s1
  have tlk:=aI s3
  have emlt:∀ k m,lk em k=some m→k<sm.nx∧m<σ.nx:=λk m h=>by
   obtain ⟨h1,h2⟩:=aH (aE c4 _ (aZ h))
   exact ⟨aC.mp h1,aC.mp h2⟩
  have tmok:∀ i u,lk tm i=some u→i<100∧fh u=true:=λi u h=>by
   obtain ⟨h1,h2⟩:=aH (aE c5 _ (aZ h))
   exact ⟨aC.mp h1,h2⟩
  have at_:∀ p∈sm.T,∃ m so',lk em p.1=some m∧σ.hp.get m=some so'∧ib (lk em) (lk tm) p.2=some so':=λp hp=>by
   have h:=aE c2 p hp
   unfold atB at h
   cases q:lk em p.1 with
   | none=>rw [q] at h; cases h
   | some m =>
    rw [q] at h
    dsimp only at h
    cases q2:σ.hp.get m with
    | none=>rw [q2] at h; cases h
    | some so'=>rw [q2] at h; exact ⟨m,so',rfl,q2,sx h⟩
  have inj:∀ k k' m so so',(k,so)∈sm.T→(k',so')∈sm.T→ag so=false→lk em k=some m→lk em k'=some m→k=k':=λk k' m so so' h1 h2 hs e1 e2=>by
   refine A8 hs ?_ e1 e2 c3 h1 h2
   obtain ⟨a,x,f1,f2,f3⟩:=at_ _ h1
   obtain ⟨a',x',g1,g2,g3⟩:=at_ _ h2
   dsimp only at f1 g1 f3 g3
   rw [e1] at f1; cases f1
   rw [e2] at g1; cases g1
   rw [f2] at g2; cases g2
   show ag so'=false
   rw [← cQ g3,cQ f3]
   exact hs
  -- the template's numbers and names
  have nut:∀ i u,lk tm i=some u→uv c.ν tm i=u.ev c.ν:=λi u h=>by rw [GI (tmok i u h).1,h]
  have nub:∀ i,i<100→-9≤uv c.ν tm i∧uv c.ν tm i≤9:=λi hi=>by
   rw [GI hi]
   cases h:lk tm i with
   | none=>exact (by decide:(-9:Int)≤0∧(0:Int)≤9)
   | some u=>exact qy c.νb (tmok i u h).2
  have rT:∀ k,k<sm.nx→CZ ρ em sm.nx k=some (((lk em k).bind ρ).getD 0):=λk hk=>by unfold CZ; rw [if_pos hk]
  have B:NN c.ν (uv c.ν tm) ρ (CZ ρ em sm.nx) (lk em) (lk tm):=⟨λk m h a ha=>by
   rw [rT k (emlt k m h).1,h]
   show some ((ρ m).getD 0)=some a
   rw [ha]; rfl,nut⟩
  have hvT:bX (uv c.ν tm) (CZ ρ em sm.nx) sm.xs vs:=su B (GA c1) hv
  let N:Nat→Prop:=λm=>∀ p∈sm.T,lk em p.1≠some m
  have stk:∀ k so,sm.st.hp.get k=some so→(k,so)∈sm.T:=λk so h=>aZ (A9 tlt' h)
  have ST:SR c.w.params (uv c.ν tm) c.hG (λb o=>c.fz b o∨a5 ρ σ s N b o) c.L (CZ ρ em sm.nx) sm.st s:=by
   refine S.focus (N:=N) (lk em) (λk so hk=>?_) (λk k' m so1 so2 hk hk' k1 k2 w w'=>?_) (λy sv hy=>nomatch hy) (λk b hk=>?_)
   ·have hk:=stk k so hk
    obtain ⟨m,so',h1,h2,h3⟩:=at_ _ hk
    exact ⟨m,so',h1,λw=>w _ hk h1,h2,λq=>by rw [cQ h3]; exact q,λa ha=>B.n _ _ h1 _ ha,λa o _ _ w=>jV B h3 w⟩
   ·exact inj k k' m so1 so2 (stk _ _ hk) (stk _ _ hk') k1 w w'
   ·by_cases w:k<sm.nx
    ·exact w
    ·unfold CZ at hk; rw [if_neg w] at hk; cases hk
  let c1:Cx:={ c with ν:=uv c.ν tm,νb:=nub,νs:=Xc,fz:=λb o=>c.fz b o∨a5 ρ σ s N b o }
  cases er:uY (ai g n) d sm.xs sm.st with
  | none=>rw [er] at so; cases so
  | some outs1 =>
  rw [er] at so
  have so:af (λp=>n6 (GF sm.T p) sm.outs) outs1=true:=so
  refine hG (fnL (c:=c1) (D:=⟨c.prog,c.w,uv c.ν tm,c.hG⟩) (lo:=ai g n) (n:=n) (cP ⟨c.prog,c.w,uv c.ν tm,c.hG⟩ PG hw n) ⟨rfl,rfl,rfl,rfl⟩ (rm.fz (c':=c1) rfl rfl rfl λ_ _ e=>.inl e) PG.G F hvT er ST (λy σ1 ρ1 t v hm x1 S1 r1 sme Lk=>?_))
  clear hG
  refine ZR λG hG=>?_
  obtain ⟨o,ho,hres⟩:=iQ (aE so _ hm)
  obtain ⟨q,hq,hone⟩:=GH e o ho
  unfold GG at hone
  ·refine aS hone λy' hy hone=>aS hone λL hL hone=>?_
   cases hle:Nat.ble (σ.nx+o.nw.length) 1024 with
   | false=>rw [hle] at hone; cases hone
   | true =>
   rw [hle] at hone
   have hone:=aD hone
   subst hone
   have hle:=bK hle
   obtain ⟨o1,s4o⟩:=aH (aE s4 o ho)
   obtain ⟨o2,o3⟩:=aH s4o
   unfold GF at hres
   obtain ⟨r2,hres⟩:=aH hres
   obtain ⟨r3,hres⟩:=aH hres
   obtain ⟨r4,r5⟩:=aH hres
   have r2:=Jp r2
   dsimp only at r2 r3 r4 r5
   subst r2
   generalize hr:CX o.nw σ.nx++em=R at *
   have Rlk:∀ k m,lk R k=some m→(lk (qP o.nw σ.nx) m=some k∧σ.nx≤m∧m<σ.nx+o.nw.length∧(∃ so,(k,so)∈o.nw))∨lk em k=some m:=λk m h=>by
    rw [← hr,qv] at h
    split at h
    ·rename_i v w
     cases h
     exact .inl (qu w)
    ·exact .inr h
   have x1T:∀ k,k<sm.nx→ρ1 k=some (((lk em k).bind ρ).getD 0):=λk hk=>x1 _ _ (rT k hk)
   have Fe:RH c.ν (uv c.ν tm) (qQ ρ ρ1 σ.nx o.nw) ρ1 (lk em) (lk tm):=⟨λk m h a ha=>by
    rw [x1T k (emlt k m h).1,h] at ha
    rw [uw (emlt k m h).2]
    exact ha,nut⟩
   have FR:RH c.ν (uv c.ν tm) (qQ ρ ρ1 σ.nx o.nw) ρ1 (lk R) (lk tm):=⟨λk m h a ha=>by
    rcases Rlk k m h with ⟨h1,h2,h3,_⟩ | h
    ·rw [ux h2,h1]
     exact ha
    ·exact Fe.n k m h a ha,nut⟩
   have xx:Ext ρ (qQ ρ ρ1 σ.nx o.nw):=λm a h=>by
    rw [uw (S.dom m a h),h]; rfl
   let gg:Nat→Sum Nat Nat:=RU σ.nx sm.T em o.nw
   have Llt:∀ p∈L,p.1<1024:=λp hp=>by
    obtain ⟨p0,h1,h2,_⟩:=(sy hL).1 p hp
    exact (Rlk _ _ h2).elim (λw=>Nat.lt_of_lt_of_le w.2.2.1 hle) λh=>Nat.lt_of_lt_of_le (emlt _ _ h).2 (Nat.le_trans (Nat.le_add_right _ _) hle)
   have told:∀ m so,(qO L σ.hp).get m=some so→Told (uv c.ν tm) c.ν c.w.params ρ1 (qQ ρ ρ1 σ.nx o.nw) R gg σ1 σ N m so:=by
    intro m so hm
    refine ZR λG hG=>?_
    rw [nz Llt] at hm
    have ofE:∀ k so0,(k,so0)∈sm.T→ag so0=false→lk em k=some m→gg m=.inl k:=λk so0 h1 hs h2=>by
     cases w:RT sm.T em m with
     | none=>exact absurd h2 (uu w _ h1)
     | some k' =>
      obtain ⟨so',g1,g2⟩:=ur w
      rw [inj k k' m _ _ h1 g1 hs h2 g2]
      exact BA (emlt _ _ h2).2 w
    have notNew:∀ k so0,(k,so0)∈sm.T→∀ m,lk R k=some m→lk em k=some m:=λk so0 h1 m h2=>by
     rcases Rlk _ _ h2 with ⟨_,_,_,so',h3⟩ | h
     ·exact absurd (show k<sm.nx from tlt _ h1) (Nat.not_lt.mpr (bK (aE o3 _ h3)))
     ·exact h
    split at hm
    ·rename_i so' w
     cases hm
     obtain ⟨⟨k,so0⟩,h1,h2,h3⟩:=(sy hL).1 _ (aZ w)
     dsimp only at h2 h3
     refine hG (.old k so0 h2 ?_ ?_ (cQ h3) λob=>jU FR h3)
     ·rcases List.mem_append.mp h1 with h1 | h1
      ·have hk:=aE o2 _ h1
       cases w2:lk sm.T k with
       | none=>dsimp only at hk; rw [w2] at hk; cases hk
       | some so1 =>
        dsimp only at hk
        rw [w2] at hk
        have hk:aL (ag so1) false true=true:=hk
        refine ofE k so1 (aZ w2) ?_ (notNew k so1 (aZ w2) m h2)
        cases hs:ag so1 with
        | false=>rfl
        | true=>rw [hs] at hk; cases hk
      ·have hge:=bK (aE o3 _ h1)
       rcases Rlk _ _ h2 with ⟨h4,h5,_⟩ | h
       ·exact RV h5 h4
       ·exact absurd (emlt _ _ h).1 (Nat.not_lt.mpr hge)
     ·rcases List.mem_append.mp h1 with h1 | h1
      ·exact n5 (aE r3 _ h1)
      ·exact n5 (aE r4 _ h1)
    ·rename_i w
     have hlt:m<σ.nx:=by
      obtain ⟨a,_,h1,_⟩:=S.hp m so hm
      exact S.dom m a h1
     cases w2:RT sm.T em m with
     | some k =>
      obtain ⟨so0,g1,g2⟩:=ur w2
      have h5:=aE r5 _ g1
      dsimp only at h5
      cases hkc:bS o.chg k with
      | true =>
       exfalso
       unfold bS at hkc
       cases w3:lk o.chg k with
       | none=>rw [w3] at hkc; cases hkc
       | some so2 =>
        obtain ⟨q,h6,h7⟩:=(sy hL).2 _ (List.mem_append.mpr (.inl (aZ w3)))
        have h8:=notNew k so0 g1 _ h7
        rw [g2] at h8
        obtain ⟨v,h9⟩:=yf h6
        rw [← aD h8,w] at h9
        cases h9
      | false =>
       rw [hkc] at h5
       have h5:qr σ1.hp (k,so0)=true:=h5
       obtain ⟨m',so',f1,f2,f3⟩:=at_ _ g1
       rw [g2] at f1
       cases f1
       rw [hm] at f2
       cases f2
       refine hG (.old k so0 ?_ ?_ (n5 h5) (cQ f3) λob=>jU Fe f3)
       ·rw [← hr,qv]
        split
        ·rename_i v w4
         obtain ⟨_,_,_,so',h3⟩:=qu w4
         exact absurd (show k<sm.nx from tlt _ g1) (Nat.not_lt.mpr (bK (aE o3 _ h3)))
        ·exact g2
       ·exact BA hlt w2
     | none =>
      exact hG (.free (Jt hlt w2) (uu w2) hm)
   have SJ:c.SR (qQ ρ ρ1 σ.nx o.nw) ⟨σ.loc,qO L σ.hp,σ.nx+o.nw.length⟩ t:=by
    refine SR.join (N:=N) (P:=c.w.params) S S1 gg (λm so hm=>?_) (λm m' so1 so2 q1 q2 k1 k2 w=>?_) ?_ (λm a h=>?_)
    ·cases told m so hm with
     | old k so0 h1 h2 h3 hsh h4 =>
      exact .inl ⟨k,so0,h2,h3,λq=>by rw [← hsh]; exact q,λa ha=>FR.n k m h1 a ha,h4⟩
     | free h1 h2 h3=>exact .inr ⟨m,so,h1,h2,h3,id,λa ha=>xx _ _ ha,λob h=>h.mono xx⟩
    ·rcases told m so1 q1 with @⟨k,so0,h1,h2,_,_,_⟩ | ⟨h1,_,_⟩<;>rcases told m' so2 q2 with @⟨k',so0',h1',h2',_,_,_⟩ | ⟨h1',_,_⟩
     ·rw [h2,h2'] at w
      cases w
      rw [h1] at h1'
      exact aD h1'
     ·rw [h2,h1'] at w; cases w
     ·rw [h1,h2'] at w; cases w
     ·rw [h1,h1'] at w
      exact Sum.inr.inj w
    ·obtain ⟨mm,hmm,hvv⟩:=S.loc
     exact ⟨mm,Lk _ hmm,λx sv e=>let ⟨v,h1,h2⟩:=hvv x sv e; ⟨v,h1,h2.mono xx⟩⟩
    ·show m<σ.nx+o.nw.length
     by_cases w:m<σ.nx
     ·exact Nat.lt_of_lt_of_le w (Nat.le_add_right _ _)
     ·rw [ux (Nat.not_lt.mp w)] at h
      cases w2:lk (qP o.nw σ.nx) m with
      | none=>rw [w2] at h; cases h
      | some k=>exact Js w2
   exact hG (hQ _ _ (qQ ρ ρ1 σ.nx o.nw) t v hq xx SJ (fI FR hy r1) sme)
def sumF (l:List (Nat×Sm)) (k:Nat) (xs:List SV):RM SV:=λσ=>List.rec (motive:=λ_=>Option (List (SV×SS))) none
 (λp _ ih=>aL (Nat.ble p.1 k) (Option.rec (motive:=λ_=>Option (List (SV×SS))) ih (λo=>some o) (lF p.2 xs σ)) ih) l
noncomputable def Jv (hG:Heap) (a:Nat) (p:Nat×Sm):Prop:=∀ (c:Cx) (ρ:Nm) (xs:List SV) (vs:List Value),c.hG=hG→c.w.params=P→Rm c p.1→bX c.ν ρ xs vs→aJ c ρ (lF p.2 xs) (call (.ref a) vs) (VR c.ν)
noncomputable def bg (P:Params) (hG:Heap) (a:Nat):List (Nat×Sm)→Prop
 | []=>True
 | p::r=>Jv P hG a p∧bg P hG a r
theorem bg.append {P:Params} {hG:Heap} {a:Nat}:∀ {l m:List (Nat×Sm)},bg P hG a l→bg P hG a m→bg P hG a (l++m)
 | [],_,_,h=>h
 | _::_,_,⟨a,b⟩,h=>⟨a,bg.append b h⟩
theorem bu {P:Params} {hG:Heap} {a:Nat}:∀ {l:List (Nat×Sm)},bg P hG a l→F7 P hG a (sumF l)
 | [],_=>λk c ρ xs vs h1 h2 rm hv σ outs e=>nomatch e
 | p::r,⟨h,hr⟩=>λk c ρ xs vs h1 h2 rm hv σ outs e=>by
  have e:aL (Nat.ble p.1 k) (Option.rec (motive:=λ_=>Option (List (SV×SS))) (sumF r k xs σ) (λo=>some o) (lF p.2 xs σ)) (sumF r k xs σ)=some outs:=e
  cases q:Nat.ble p.1 k with
  | false =>
   rw [q] at e
   exact bu hr k c ρ xs vs h1 h2 rm hv σ outs e
  | true =>
   rw [q] at e
   cases q2:lF p.2 xs σ with
   | none =>
    rw [q2] at e
    exact bu hr k c ρ xs vs h1 h2 rm hv σ outs e
   | some o =>
    rw [q2] at e
    cases e
    exact h c ρ xs vs h1 h2 (rm.le (bK q)) hv σ outs q2
theorem aA {P:Params} {g:Pg} {K:Frag} {mg mb:Str→Option Value} {h:Heap} {a n:Nat} {d:bf} {sm:Sm} (PG:aY g K mg mb h) (hp:g.pr=P) (F:aq K a d) (so:aK (ai g n) d sm=true):Jv P h a (n+1,sm) :=
 λc ρ xs vs h1 h2 rm hv=>by
  subst h1
  exact Ju PG (h2.trans hp.symm) rm F so hv
def part (h:Hp) (l:List Nat):List (Nat×SO):=List.rec (motive:=λ_=>List (Nat×SO)) [] (λn _ ih=>Option.rec (motive:=λ_=>List (Nat×SO)) ih (λso=>(n,so)::ih) (h.get n)) l
def Ca (key:List SV→SS→Nat) (tab:List (Nat×(Nat×Sm))) (k:Nat) (xs:List SV):RM SV:=λσ=>Option.rec (motive:=λ_=>Option (List (SV×SS))) none (λp=>aL (Nat.ble p.1 k) (lF p.2 xs σ) none) (lk tab (key xs σ))
noncomputable def AllK (P:Params) (hG:Heap) (a:Nat):List (Nat×(Nat×Sm))→Prop
 | []=>True
 | p::r=>Jv P hG a p.2∧AllK P hG a r
theorem AllK.get {P:Params} {hG:Heap} {a:Nat}:∀ {l:List (Nat×(Nat×Sm))},AllK P hG a l→∀ x p,lk l x=some p→Jv P hG a p
 | q::r,⟨h,hr⟩,x,p,e=>by
  rw [aQ] at e
  by_cases w:q.1=x
  ·rw [if_pos w] at e; cases e; exact h
  ·rw [if_neg w] at e; exact AllK.get hr x p e
theorem mw {P:Params} {hG:Heap} {a:Nat} {key:List SV→SS→Nat} {tab:List (Nat×(Nat×Sm))} (h:AllK P hG a tab):F7 P hG a (Ca key tab):=λk c ρ xs vs h1 h2 rm hv σ outs e=>by
 unfold Ca at e
 cases q:lk tab (key xs σ) with
 | none=>rw [q] at e; cases e
 | some p =>
  rw [q] at e
  have e:aL (Nat.ble p.1 k) (lF p.2 xs σ) none=some outs:=e
  cases q2:Nat.ble p.1 k with
  | false=>rw [q2] at e; cases e
  | true =>
   rw [q2] at e
   exact h.get _ _ q c ρ xs vs h1 h2 (rm.le (bK q2)) hv σ outs e
noncomputable def codeS:SV→Nat
 | .str n=>n
 | .int (.c (.ofNat n))=>Nat.succ n
 | _=>255
def Xd (l:List SV):Nat:=List.rec (motive:=λ_=>Nat) 0 (λx _ ih=>Nat.add (codeS x) (Nat.mul 256 ih)) l
def fu (σ:SS):SV→Nat
 | .ref n=>(match σ.hp.get n with
  | some (.list l)=>Xd l
  | _=>0)
 | _=>0
def aAU (xs:List SV) (σ:SS):Nat:=match xs with
 | x::_=>fu σ x
 | _=>0
def aAV (xs:List SV) (σ:SS):Nat:=match xs with
 | _::x::_=>fu σ x
 | _=>0
def attrL (σ:SS) (C:SV) (x:Nat):SV:=match C with
 | .ref n=>(match σ.hp.get n with
  | some (.inst _ d)=>(match σ.hp.get d with
   | some (.dict es)=>Option.rec (motive:=λ_=>SV) SV.none id (lk es x)
   | _=>.none)
  | _=>.none)
 | _=>.none
def NO (σ:SS) (C:SV) (k:SV):SV:=match C with
 | .ref n=>(match σ.hp.get n with
  | some (.dict es)=>(match k with
   | .str x=>Option.rec (motive:=λ_=>SV) SV.none id (lk es x)
   | _=>.none)
  | some (.list l)=>(match k with
   | .int (.c (.ofNat i))=>Option.rec (motive:=λ_=>SV) SV.none id (sO l i)
   | _=>.none)
  | _=>.none)
 | _=>.none
def NP:SV→SV→Nat
 | .ref a,.ref b=>Bool.rec (motive:=λ_=>Nat) 2 1 (Nat.beq a b)
 | _,_=>0
def aAW (σ:SS) (v:SV):Nat:=match attrL σ v 126875187113826 with
 | .ref n=>(match σ.hp.get n with
  | some (.list (.ref m::_))=>(match σ.hp.get m with
   | some (.tup (x::_))=>codeS x
   | _=>0)
  | _=>0)
 | _=>0
def aAX (σ:SS) (C:SV):Nat:=match C with
 | .ref n=>(match σ.hp.get n with
  | some (.list l)=>l.length
  | _=>0)
 | _=>0
def Xe (xs:List SV) (σ:SS):Nat:=match xs with
 | .ref p::_::v::_=>(match σ.hp.get p with
  | some (.tup [.str w,C])=>Nat.add w (Nat.mul (2 ^ 80) (NP (attrL σ C 435761734006) v))
  | some (.tup [.str w,C,k])=>Nat.add w (Nat.mul (2 ^ 60) (Nat.add (codeS k) (Nat.mul (2 ^ 20) (Nat.add (NP (aL (Nat.beq w 1835365481) (NO σ (attrL σ C 495756604521) k) (NO σ (attrL σ C 126875152509286) k)) v) (Nat.mul 8 (aAX σ (attrL σ C 495756604521)))))))
  | some (.tup (.str w::_::k::_))=>Nat.add w (Nat.mul (2 ^ 60) (Nat.add (codeS k) (Nat.mul (2 ^ 20) (aAW σ v))))
  | _=>0)
 | _=>0
noncomputable def Iv:Nat×SV:=(120,(.int (.v 3)))
noncomputable def Iw:Nat×SV:=(121,(.int (.v 4)))
noncomputable def GJ:Nat×SV:=(120,(.int (.v 5)))
noncomputable def GK:Nat×SV:=(121,(.int (.v 6)))
noncomputable def NQ:Nat×SV:=(120,(.int (.v 7)))
noncomputable def NR:Nat×SV:=(121,(.int (.v 8)))
noncomputable def NS:Nat×SV:=(120,(.int (.v 12)))
noncomputable def NT:Nat×SV:=(121,(.int (.v 13)))
noncomputable def RW:Nat×SV:=(120,(.int (.v 14)))
noncomputable def RX:Nat×SV:=(121,(.int (.v 15)))
noncomputable def yg:Nat×SV:=(120,(.int (.v 16)))
noncomputable def yh:Nat×SV:=(121,(.int (.v 17)))
noncomputable def GL:Nat×SV:=(107,(.int (.v 0)))
noncomputable def yi:Nat×SV:=(120,(.int (.v 1)))
noncomputable def yj:Nat×SV:=(121,(.int (.v 2)))
noncomputable def GN:Nat×SV:=(107,(.int (.v 9)))
noncomputable def GO:Nat×SV:=(120,(.int (.v 10)))
noncomputable def GP:Nat×SV:=(121,(.int (.v 11)))
noncomputable def GR:Nat×SV:=(107,(.int (.v 18)))
noncomputable def RY:Nat×SV:=(107,(.int (.v 27)))
noncomputable def Jw:Nat×SV:=(120,(.int (.v 19)))
noncomputable def Jx:Nat×SV:=(121,(.int (.v 20)))
noncomputable def RZ:Nat×SV:=(120,(.int (.v 28)))
noncomputable def Ra:Nat×SV:=(121,(.int (.v 29)))
noncomputable def Jy:Nat×SV:=(120,(.int (.v 21)))
noncomputable def Jz:Nat×SV:=(121,(.int (.v 22)))
noncomputable def J0:Nat×SV:=(120,(.int (.v 23)))
noncomputable def J9:Nat×SV:=(121,(.int (.v 24)))
noncomputable def KA:Nat×SV:=(120,(.int (.v 25)))
noncomputable def KC:Nat×SV:=(121,(.int (.v 26)))
noncomputable def Rb:Nat×SV:=(120,(.int (.v 30)))
noncomputable def Rc:Nat×SV:=(121,(.int (.v 31)))
noncomputable def Rd:Nat×SV:=(120,(.int (.v 32)))
noncomputable def Rf:Nat×SV:=(121,(.int (.v 33)))
noncomputable def Rg:Nat×SV:=(120,(.int (.v 34)))
noncomputable def Rh:Nat×SV:=(121,(.int (.v 35)))
noncomputable def Ri:Nat×SV:=(120,(.int (.v 36)))
noncomputable def bZ:Nat×SV:=(1701869940,.ref 19)
noncomputable def GS:Nat×SV:=(495756604521,.ref 105)
noncomputable def Rj:Nat×SV:=(495756604521,.ref 133)
noncomputable def tA:Nat×SV:=(1701869940,.ref 54)
noncomputable def Rk:Nat×SV:=(32498731008159597,(.int (.c (0))))
noncomputable def Rl:Nat×SV:=(2036277175527580016820010021253993,(.bool true))
noncomputable def Rn:Nat×SV:=(1851981329959648981865,(.bool false))
noncomputable def Ro:Nat×SV:=(474108157794489697530729,(.bool false))
noncomputable def Rp:Nat×SV:=(479105859998993637929833,(.bool false))
noncomputable def Rq:Nat×SV:=(140704706938619912968434537,(.bool false))
noncomputable def Rr:Nat×SV:=(140756653113759750474920809,(.bool false))
noncomputable def Rt:Nat×SV:=(28556934426620777,(.bool false))
noncomputable def KD:Nat×SV:=(126875152509286,.ref 417)
noncomputable def jX:Nat×SO:=(109,(.inst 152 108))
noncomputable def jE:Nat×SO:=(108,(.dict [bZ,(126875152509286,.ref 107)]))
noncomputable def jY:Nat×SO:=(107,(.dict [Iv,Iw]))
noncomputable def kU:Nat×SO:=(113,(.inst 152 112))
noncomputable def kH:Nat×SO:=(112,(.dict [bZ,(126875152509286,.ref 111)]))
noncomputable def kW:Nat×SO:=(111,(.dict [GJ,GK]))
noncomputable def f9:Nat×SO:=(119,(.inst 131 118))
noncomputable def fw:Nat×SO:=(118,(.dict [(126875187113826,.ref 103),GS]))
noncomputable def i6:Nat×SO:=(103,(.list [.ref 102]))
noncomputable def gA:Nat×SO:=(105,(.list [.ref 109,.ref 113,.ref 117]))
noncomputable def dr:Nat×SO:=(117,(.inst 152 116))
noncomputable def dd:Nat×SO:=(116,(.dict [bZ,(126875152509286,.ref 115)]))
noncomputable def du:Nat×SO:=(115,(.dict [NQ,NR]))
noncomputable def Xf:Nat×SO:=(402,(.inst 152 403))
noncomputable def fL:Nat×SO:=(147,(.inst 131 146))
noncomputable def ew:Nat×SO:=(146,(.dict [(126875187113826,.ref 131),Rj]))
noncomputable def fM:Nat×SO:=(131,(.list [.ref 130]))
noncomputable def fN:Nat×SO:=(133,(.list [.ref 137,.ref 141,.ref 145]))
noncomputable def gP:Nat×SO:=(137,(.inst 152 136))
noncomputable def kX:Nat×SO:=(141,(.inst 152 140))
noncomputable def kY:Nat×SO:=(145,(.inst 152 144))
noncomputable def gE:Nat×SO:=(136,(.dict [bZ,(126875152509286,.ref 135)]))
noncomputable def jZ:Nat×SO:=(140,(.dict [bZ,(126875152509286,.ref 139)]))
noncomputable def ja:Nat×SO:=(144,(.dict [bZ,(126875152509286,.ref 143)]))
noncomputable def gQ:Nat×SO:=(135,(.dict [NS,NT]))
noncomputable def kZ:Nat×SO:=(139,(.dict [RW,RX]))
noncomputable def ke:Nat×SO:=(143,(.dict [yg,yh]))
noncomputable def Xg:Nat×SO:=(118,(.dict [(126875187113826,.ref 131),GS]))
noncomputable def dN:Nat×SO:=(126,(.inst 152 125))
noncomputable def dA:Nat×SO:=(125,(.dict [tA,(126875152509286,.ref 120)]))
noncomputable def dO:Nat×SO:=(120,(.dict [GL,(112,.ref 124),(114,.ref 119)]))
noncomputable def gR:Nat×SO:=(124,(.inst 152 123))
noncomputable def gF:Nat×SO:=(123,(.dict [bZ,(126875152509286,.ref 122)]))
noncomputable def gS:Nat×SO:=(122,(.dict [yi,yj]))
noncomputable def eT:Nat×SO:=(154,(.inst 152 153))
noncomputable def d9:Nat×SO:=(153,(.dict [tA,(126875152509286,.ref 148)]))
noncomputable def eU:Nat×SO:=(148,(.dict [GN,(112,.ref 152),(114,.ref 147)]))
noncomputable def n8:Nat×SO:=(152,(.inst 152 151))
noncomputable def mT:Nat×SO:=(151,(.dict [bZ,(126875152509286,.ref 150)]))
noncomputable def n9:Nat×SO:=(150,(.dict [GO,GP]))
noncomputable def cC:Nat×SO:=(157,(.inst 131 156))
noncomputable def b6:Nat×SO:=(156,(.dict [(126875187113826,.ref 98),(495756604521,.ref 155)]))
noncomputable def cO:Nat×SO:=(98,(.list [.ref 97]))
noncomputable def cD:Nat×SO:=(155,(.list [.ref 126,.ref 154]))
noncomputable def cZ:Nat×SO:=(220,(.inst 131 219))
noncomputable def cT:Nat×SO:=(219,(.dict [(126875187113826,.ref 161),(495756604521,.ref 218)]))
noncomputable def cf:Nat×SO:=(161,(.list [.ref 160]))
noncomputable def cg:Nat×SO:=(218,(.list [.ref 189,.ref 217]))
noncomputable def fi:Nat×SO:=(189,(.inst 152 188))
noncomputable def gU:Nat×SO:=(217,(.inst 152 216))
noncomputable def fO:Nat×SO:=(188,(.dict [tA,(126875152509286,.ref 183)]))
noncomputable def gG:Nat×SO:=(216,(.dict [tA,(126875152509286,.ref 211)]))
noncomputable def fj:Nat×SO:=(183,(.dict [GR,(112,.ref 187),(114,.ref 182)]))
noncomputable def gV:Nat×SO:=(211,(.dict [RY,(112,.ref 215),(114,.ref 210)]))
noncomputable def yk:Nat×SO:=(187,(.inst 152 186))
noncomputable def jb:Nat×SO:=(182,(.inst 131 181))
noncomputable def GU:Nat×SO:=(215,(.inst 152 214))
noncomputable def mU:Nat×SO:=(210,(.inst 131 209))
noncomputable def uy:Nat×SO:=(186,(.dict [bZ,(126875152509286,.ref 185)]))
noncomputable def i7:Nat×SO:=(181,(.dict [(126875187113826,.ref 166),(495756604521,.ref 168)]))
noncomputable def Cb:Nat×SO:=(214,(.dict [bZ,(126875152509286,.ref 213)]))
noncomputable def kf:Nat×SO:=(209,(.dict [(126875187113826,.ref 194),(495756604521,.ref 196)]))
noncomputable def yl:Nat×SO:=(185,(.dict [Jw,Jx]))
noncomputable def jc:Nat×SO:=(166,(.list [.ref 165]))
noncomputable def jd:Nat×SO:=(168,(.list [.ref 172,.ref 176,.ref 180]))
noncomputable def GV:Nat×SO:=(213,(.dict [RZ,Ra]))
noncomputable def mV:Nat×SO:=(194,(.list [.ref 193]))
noncomputable def mW:Nat×SO:=(196,(.list [.ref 200,.ref 204,.ref 208]))
noncomputable def ym:Nat×SO:=(172,(.inst 152 171))
noncomputable def yn:Nat×SO:=(176,(.inst 152 175))
noncomputable def yo:Nat×SO:=(180,(.inst 152 179))
noncomputable def GW:Nat×SO:=(200,(.inst 152 199))
noncomputable def GX:Nat×SO:=(204,(.inst 152 203))
noncomputable def GY:Nat×SO:=(208,(.inst 152 207))
noncomputable def uz:Nat×SO:=(171,(.dict [bZ,(126875152509286,.ref 170)]))
noncomputable def u0:Nat×SO:=(175,(.dict [bZ,(126875152509286,.ref 174)]))
noncomputable def u4:Nat×SO:=(179,(.dict [bZ,(126875152509286,.ref 178)]))
noncomputable def Cc:Nat×SO:=(199,(.dict [bZ,(126875152509286,.ref 198)]))
noncomputable def Cd:Nat×SO:=(203,(.dict [bZ,(126875152509286,.ref 202)]))
noncomputable def Ce:Nat×SO:=(207,(.dict [bZ,(126875152509286,.ref 206)]))
noncomputable def yp:Nat×SO:=(170,(.dict [Jy,Jz]))
noncomputable def yq:Nat×SO:=(174,(.dict [J0,J9]))
noncomputable def yr:Nat×SO:=(178,(.dict [KA,KC]))
noncomputable def GZ:Nat×SO:=(198,(.dict [Rb,Rc]))
noncomputable def Ga:Nat×SO:=(202,(.dict [Rd,Rf]))
noncomputable def Gb:Nat×SO:=(206,(.dict [Rg,Rh]))
noncomputable def Cf:Nat×SO:=(89,(.dict [(26223,.ref 88),(29793,.anyN)]))
noncomputable def Xh:Nat×SO:=(390,(.list [(.str 97)]))
noncomputable def Xi:Nat×SO:=(402,(.tup [(.int (.c (0))),(.int (.c (18)))]))
noncomputable def a6:Nat×SO:=(95,(.dict [(97,.ref 159),(98,.ref 222)]))
noncomputable def Xj:Nat×SO:=(390,(.list [(.str 97),(.int (.c (0)))]))
noncomputable def Xk:Nat×SO:=(403,(.tup [(.int (.c (0))),(.int (.c (9)))]))
noncomputable def cj:Nat×SO:=(159,(.inst 110 158))
noncomputable def cU:Nat×SO:=(158,(.dict [(435761734006,.ref 157),(125779768604014,(.int (.c (1)))),(28552639593739635,.none)]))
noncomputable def cn:Nat×SO:=(97,(.tup [(.int (.c (0))),(.int (.c (1)))]))
noncomputable def Xl:Nat×SO:=(390,(.list [(.str 97),(.int (.c (0))),(.str 114)]))
noncomputable def Xm:Nat×SO:=(405,(.tup [(.int (.c (3))),(.int (.c (6)))]))
noncomputable def Xn:Nat×SO:=(390,(.list [(.str 97),(.int (.c (0))),(.str 107)]))
noncomputable def Xo:Nat×SO:=(405,(.tup [(.int (.c (0))),(.int (.c (1)))]))
noncomputable def Xp:Nat×SO:=(390,(.list [(.str 97),(.int (.c (0))),(.str 112)]))
noncomputable def NU:Nat×SO:=(405,(.tup [(.int (.c (1))),(.int (.c (2)))]))
noncomputable def NV:Nat×SO:=(390,(.list [(.str 97),(.int (.c (0))),(.str 112),(.str 120)]))
noncomputable def NW:Nat×SO:=(407,(.tup [(.int (.c (1))),(.int (.c (1)))]))
noncomputable def NX:Nat×SO:=(390,(.list [(.str 97),(.int (.c (0))),(.str 112),(.str 121)]))
noncomputable def NY:Nat×SO:=(407,(.tup [(.int (.c (2))),(.int (.c (1)))]))
noncomputable def NZ:Nat×SO:=(390,(.list [(.str 97),(.int (.c (0))),(.str 114),(.int (.c (1)))]))
noncomputable def Na:Nat×SO:=(406,(.tup [(.int (.c (3))),(.int (.c (2)))]))
noncomputable def dY:Nat×SO:=(102,(.tup [(.int (.c (1))),(.int (.c (3)))]))
noncomputable def Nb:Nat×SO:=(390,(.list [(.str 97),(.int (.c (0))),(.str 114),(.int (.c (1))),(.str 120)]))
noncomputable def Nc:Nat×SO:=(408,(.tup [(.int (.c (3))),(.int (.c (1)))]))
noncomputable def Nd:Nat×SO:=(390,(.list [(.str 97),(.int (.c (0))),(.str 114),(.int (.c (1))),(.str 121)]))
noncomputable def Nf:Nat×SO:=(408,(.tup [(.int (.c (4))),(.int (.c (1)))]))
noncomputable def Ng:Nat×SO:=(390,(.list [(.str 97),(.int (.c (0))),(.str 114),(.int (.c (2)))]))
noncomputable def Nh:Nat×SO:=(406,(.tup [(.int (.c (5))),(.int (.c (2)))]))
noncomputable def Ni:Nat×SO:=(390,(.list [(.str 97),(.int (.c (0))),(.str 114),(.int (.c (2))),(.str 120)]))
noncomputable def Nj:Nat×SO:=(408,(.tup [(.int (.c (5))),(.int (.c (1)))]))
noncomputable def Nk:Nat×SO:=(390,(.list [(.str 97),(.int (.c (0))),(.str 114),(.int (.c (2))),(.str 121)]))
noncomputable def Nl:Nat×SO:=(408,(.tup [(.int (.c (6))),(.int (.c (1)))]))
noncomputable def Nn:Nat×SO:=(390,(.list [(.str 97),(.int (.c (0))),(.str 114),(.int (.c (3)))]))
noncomputable def Np:Nat×SO:=(406,(.tup [(.int (.c (7))),(.int (.c (2)))]))
noncomputable def Nq:Nat×SO:=(390,(.list [(.str 97),(.int (.c (0))),(.str 114),(.int (.c (3))),(.str 120)]))
noncomputable def Nr:Nat×SO:=(408,(.tup [(.int (.c (7))),(.int (.c (1)))]))
noncomputable def Nt:Nat×SO:=(390,(.list [(.str 97),(.int (.c (0))),(.str 114),(.int (.c (3))),(.str 121)]))
noncomputable def Nu:Nat×SO:=(408,(.tup [(.int (.c (8))),(.int (.c (1)))]))
noncomputable def Nv:Nat×SO:=(390,(.list [(.str 97),(.int (.c (1)))]))
noncomputable def Nw:Nat×SO:=(403,(.tup [(.int (.c (9))),(.int (.c (9)))]))
noncomputable def Nx:Nat×SO:=(390,(.list [(.str 97),(.int (.c (1))),(.str 114)]))
noncomputable def Ny:Nat×SO:=(405,(.tup [(.int (.c (12))),(.int (.c (6)))]))
noncomputable def Nz:Nat×SO:=(390,(.list [(.str 97),(.int (.c (1))),(.str 107)]))
noncomputable def N0:Nat×SO:=(405,(.tup [(.int (.c (9))),(.int (.c (1)))]))
noncomputable def N1:Nat×SO:=(390,(.list [(.str 97),(.int (.c (1))),(.str 112)]))
noncomputable def N2:Nat×SO:=(405,(.tup [(.int (.c (10))),(.int (.c (2)))]))
noncomputable def N3:Nat×SO:=(390,(.list [(.str 97),(.int (.c (1))),(.str 112),(.str 120)]))
noncomputable def N4:Nat×SO:=(407,(.tup [(.int (.c (10))),(.int (.c (1)))]))
noncomputable def N5:Nat×SO:=(390,(.list [(.str 97),(.int (.c (1))),(.str 112),(.str 121)]))
noncomputable def N7:Nat×SO:=(407,(.tup [(.int (.c (11))),(.int (.c (1)))]))
noncomputable def N8:Nat×SO:=(390,(.list [(.str 97),(.int (.c (1))),(.str 114),(.int (.c (1)))]))
noncomputable def N9:Nat×SO:=(406,(.tup [(.int (.c (12))),(.int (.c (2)))]))
noncomputable def gX:Nat×SO:=(130,(.tup [(.int (.c (1))),(.int (.c (3)))]))
noncomputable def OA:Nat×SO:=(390,(.list [(.str 97),(.int (.c (1))),(.str 114),(.int (.c (1))),(.str 120)]))
noncomputable def OB:Nat×SO:=(408,(.tup [(.int (.c (12))),(.int (.c (1)))]))
noncomputable def OC:Nat×SO:=(390,(.list [(.str 97),(.int (.c (1))),(.str 114),(.int (.c (1))),(.str 121)]))
noncomputable def OD:Nat×SO:=(408,(.tup [(.int (.c (13))),(.int (.c (1)))]))
noncomputable def OE:Nat×SO:=(390,(.list [(.str 97),(.int (.c (1))),(.str 114),(.int (.c (2)))]))
noncomputable def OF:Nat×SO:=(406,(.tup [(.int (.c (14))),(.int (.c (2)))]))
noncomputable def OG:Nat×SO:=(390,(.list [(.str 97),(.int (.c (1))),(.str 114),(.int (.c (2))),(.str 120)]))
noncomputable def OH:Nat×SO:=(408,(.tup [(.int (.c (14))),(.int (.c (1)))]))
noncomputable def OI:Nat×SO:=(390,(.list [(.str 97),(.int (.c (1))),(.str 114),(.int (.c (2))),(.str 121)]))
noncomputable def OJ:Nat×SO:=(408,(.tup [(.int (.c (15))),(.int (.c (1)))]))
noncomputable def OK:Nat×SO:=(390,(.list [(.str 97),(.int (.c (1))),(.str 114),(.int (.c (3)))]))
noncomputable def OL:Nat×SO:=(406,(.tup [(.int (.c (16))),(.int (.c (2)))]))
noncomputable def OM:Nat×SO:=(390,(.list [(.str 97),(.int (.c (1))),(.str 114),(.int (.c (3))),(.str 120)]))
noncomputable def ON:Nat×SO:=(408,(.tup [(.int (.c (16))),(.int (.c (1)))]))
noncomputable def OO:Nat×SO:=(390,(.list [(.str 97),(.int (.c (1))),(.str 114),(.int (.c (3))),(.str 121)]))
noncomputable def OP:Nat×SO:=(408,(.tup [(.int (.c (17))),(.int (.c (1)))]))
noncomputable def OQ:Nat×SO:=(390,(.list [(.str 98)]))
noncomputable def OS:Nat×SO:=(390,(.list [(.str 98),(.int (.c (0)))]))
noncomputable def ba:Nat×SO:=(222,(.inst 110 221))
noncomputable def bU:Nat×SO:=(221,(.dict [(435761734006,.ref 220),(125779768604014,(.int (.c (1)))),(28552639593739635,.none)]))
noncomputable def bV:Nat×SO:=(160,(.tup [(.int (.c (0))),(.int (.c (1)))]))
noncomputable def OT:Nat×SO:=(390,(.list [(.str 98),(.int (.c (0))),(.str 114)]))
noncomputable def OU:Nat×SO:=(390,(.list [(.str 98),(.int (.c (0))),(.str 107)]))
noncomputable def OV:Nat×SO:=(390,(.list [(.str 98),(.int (.c (0))),(.str 112)]))
noncomputable def OW:Nat×SO:=(390,(.list [(.str 98),(.int (.c (0))),(.str 112),(.str 120)]))
noncomputable def OX:Nat×SO:=(390,(.list [(.str 98),(.int (.c (0))),(.str 112),(.str 121)]))
noncomputable def OY:Nat×SO:=(390,(.list [(.str 98),(.int (.c (0))),(.str 114),(.int (.c (1)))]))
noncomputable def ir:Nat×SO:=(165,(.tup [(.int (.c (1))),(.int (.c (3)))]))
noncomputable def OZ:Nat×SO:=(390,(.list [(.str 98),(.int (.c (0))),(.str 114),(.int (.c (1))),(.str 120)]))
noncomputable def Oa:Nat×SO:=(390,(.list [(.str 98),(.int (.c (0))),(.str 114),(.int (.c (1))),(.str 121)]))
noncomputable def Ob:Nat×SO:=(390,(.list [(.str 98),(.int (.c (0))),(.str 114),(.int (.c (2)))]))
noncomputable def Oc:Nat×SO:=(390,(.list [(.str 98),(.int (.c (0))),(.str 114),(.int (.c (2))),(.str 120)]))
noncomputable def Od:Nat×SO:=(390,(.list [(.str 98),(.int (.c (0))),(.str 114),(.int (.c (2))),(.str 121)]))
noncomputable def Oe:Nat×SO:=(390,(.list [(.str 98),(.int (.c (0))),(.str 114),(.int (.c (3)))]))
noncomputable def Og:Nat×SO:=(390,(.list [(.str 98),(.int (.c (0))),(.str 114),(.int (.c (3))),(.str 120)]))
noncomputable def Oh:Nat×SO:=(390,(.list [(.str 98),(.int (.c (0))),(.str 114),(.int (.c (3))),(.str 121)]))
noncomputable def Oi:Nat×SO:=(390,(.list [(.str 98),(.int (.c (1)))]))
noncomputable def Oj:Nat×SO:=(390,(.list [(.str 98),(.int (.c (1))),(.str 114)]))
noncomputable def Ol:Nat×SO:=(390,(.list [(.str 98),(.int (.c (1))),(.str 107)]))
noncomputable def Om:Nat×SO:=(390,(.list [(.str 98),(.int (.c (1))),(.str 112)]))
noncomputable def Oo:Nat×SO:=(390,(.list [(.str 98),(.int (.c (1))),(.str 112),(.str 120)]))
noncomputable def Oq:Nat×SO:=(390,(.list [(.str 98),(.int (.c (1))),(.str 112),(.str 121)]))
noncomputable def Ot:Nat×SO:=(390,(.list [(.str 98),(.int (.c (1))),(.str 114),(.int (.c (1)))]))
noncomputable def iu:Nat×SO:=(193,(.tup [(.int (.c (1))),(.int (.c (3)))]))
noncomputable def Ou:Nat×SO:=(390,(.list [(.str 98),(.int (.c (1))),(.str 114),(.int (.c (1))),(.str 120)]))
noncomputable def Ov:Nat×SO:=(390,(.list [(.str 98),(.int (.c (1))),(.str 114),(.int (.c (1))),(.str 121)]))
noncomputable def Ow:Nat×SO:=(390,(.list [(.str 98),(.int (.c (1))),(.str 114),(.int (.c (2)))]))
noncomputable def Ox:Nat×SO:=(390,(.list [(.str 98),(.int (.c (1))),(.str 114),(.int (.c (2))),(.str 120)]))
noncomputable def Oy:Nat×SO:=(390,(.list [(.str 98),(.int (.c (1))),(.str 114),(.int (.c (2))),(.str 121)]))
noncomputable def Oz:Nat×SO:=(390,(.list [(.str 98),(.int (.c (1))),(.str 114),(.int (.c (3)))]))
noncomputable def O0:Nat×SO:=(390,(.list [(.str 98),(.int (.c (1))),(.str 114),(.int (.c (3))),(.str 120)]))
noncomputable def O1:Nat×SO:=(390,(.list [(.str 98),(.int (.c (1))),(.str 114),(.int (.c (3))),(.str 121)]))
noncomputable def O2:Nat×SO:=(413,(.inst 131 412))
noncomputable def O3:Nat×SO:=(412,(.dict [(126875187113826,.ref 403),(495756604521,.ref 405)]))
noncomputable def O4:Nat×SO:=(403,(.list [.ref 402]))
noncomputable def O5:Nat×SO:=(405,(.list [.ref 406,.ref 409]))
noncomputable def O6:Nat×SO:=(406,(.inst 152 407))
noncomputable def O7:Nat×SO:=(409,(.inst 152 410))
noncomputable def O8:Nat×SO:=(407,(.dict [bZ,(126875152509286,.ref 408)]))
noncomputable def O9:Nat×SO:=(410,(.dict [bZ,(126875152509286,.ref 411)]))
noncomputable def BB:Nat×SO:=(13,(.inst 300 12))
noncomputable def BC:Nat×SO:=(12,(.dict [(1701869940,.ref 4),(549831247337278097223523,.ref 11)]))
noncomputable def BD:Nat×SO:=(4,(.inst 279 3))
noncomputable def BE:Nat×SO:=(11,(.tup [(.str 435526984050),(.int (.c (-9))),(.int (.c (9)))]))
noncomputable def BF:Nat×SO:=(3,(.dict [(1684957547,(.str 7630441)),(1701667182,(.str 32199642103180905)),(125779768604014,(.int (.c (5)))),(128017497219440,.none),(7827308,(.int (.c (-32768)))),(1751607656,(.int (.c (32767)))),(8317129755802757484,.ref 5),Rk,(465674792307,.ref 6),(517097156201,.ref 7),(2147777198292034482019,.none),Rl,(9147272392226119990988942567780,.ref 8),(545219922728301234057059,.ref 9),(32772461958422902,.none),(474108155543780756514148,.none),Rn,(1701079415,.none),Ro,Rp,Rq,Rr,Rt,(545109315453889894772847,.ref 10)]))
noncomputable def je:Nat×SO:=(87,(.inst 300 86))
noncomputable def jf:Nat×SO:=(86,(.dict [bZ,(549831247337278097223523,.none)]))
noncomputable def jg:Nat×SO:=(19,(.inst 279 18))
noncomputable def jh:Nat×SO:=(18,(.dict [(1684957547,(.str 110442657834354)),(1701667182,(.str 1919508848)),(125779768604014,(.int (.c (80)))),(128017497219440,.none),(7827308,.none),(1751607656,.none),(8317129755802757484,.ref 20),Rk,(465674792307,.ref 21),(517097156201,.ref 22),(2147777198292034482019,.none),Rl,(9147272392226119990988942567780,.ref 26),(545219922728301234057059,.ref 27),(32772461958422902,.none),(474108155543780756514148,.none),Rn,(1701079415,.none),Ro,Rp,Rq,Rr,Rt,(545109315453889894772847,.ref 25)]))
noncomputable def ji:Nat×SO:=(26,(.list []))
noncomputable def jj:Nat×SO:=(27,(.list [.ref 15,.ref 16]))
noncomputable def jk:Nat×SO:=(15,(.tup [(.str 120),.ref 13,.none]))
noncomputable def jl:Nat×SO:=(16,(.tup [(.str 121),.ref 13,.none]))
noncomputable def PA:Nat×SO:=(392,(.tup [(.str 431315315046),.ref 126,(.str 112)]))
noncomputable def PB:Nat×SO:=(123,(.dict [bZ,KD]))
noncomputable def BG:Nat×SO:=(417,(.dict [NS,NT]))
noncomputable def PC:Nat×SO:=(392,(.tup [(.str 1835365481),.ref 119,(.int (.c (0)))]))
noncomputable def PD:Nat×SO:=(108,(.dict [bZ,KD]))
noncomputable def PE:Nat×SO:=(392,(.tup [(.str 1835365481),.ref 119,(.int (.c (1)))]))
noncomputable def PF:Nat×SO:=(112,(.dict [bZ,KD]))
noncomputable def PH:Nat×SO:=(392,(.tup [(.str 1835365481),.ref 119,(.int (.c (2)))]))
noncomputable def BH:Nat×SO:=(116,(.dict [bZ,KD]))
noncomputable def PI:Nat×SO:=(417,(.dict [NQ,NR]))
noncomputable def PJ:Nat×SO:=(392,(.tup [(.str 431315315046),.ref 126,(.str 114)]))
noncomputable def PK:Nat×SO:=(118,(.dict [(126875187113826,.ref 402),GS]))
noncomputable def PL:Nat×SO:=(108,(.dict [bZ,(126875152509286,.ref 415)]))
noncomputable def PM:Nat×SO:=(112,(.dict [bZ,(126875152509286,.ref 416)]))
noncomputable def PN:Nat×SO:=(402,(.list [.ref 102]))
noncomputable def u5:Nat×SO:=(83,(.inst 300 82))
noncomputable def u6:Nat×SO:=(82,(.dict [tA,(549831247337278097223523,.none)]))
noncomputable def u9:Nat×SO:=(54,(.inst 279 53))
noncomputable def vA:Nat×SO:=(53,(.dict [(1684957547,(.str 110442657834354)),(1701667182,(.str 7892834)),(125779768604014,(.int (.c (82)))),(128017497219440,.none),(7827308,.none),(1751607656,.none),(8317129755802757484,.ref 55),Rk,(465674792307,.ref 56),(517097156201,.ref 57),(2147777198292034482019,.none),Rl,(9147272392226119990988942567780,.ref 61),(545219922728301234057059,.ref 62),(32772461958422902,.none),(474108155543780756514148,.none),Rn,(1701079415,.none),Ro,Rp,Rq,Rr,Rt,(545109315453889894772847,.ref 60)]))
noncomputable def vB:Nat×SO:=(61,(.list []))
noncomputable def vC:Nat×SO:=(62,(.list [.ref 44,.ref 47,.ref 50]))
noncomputable def vD:Nat×SO:=(44,(.tup [(.str 107),.ref 13,.none]))
noncomputable def vE:Nat×SO:=(47,(.tup [(.str 112),.ref 46,.none]))
noncomputable def vF:Nat×SO:=(50,(.tup [(.str 114),.ref 49,.none]))
noncomputable def PO:Nat×SO:=(392,(.tup [(.str 1835365481),.ref 157,(.int (.c (0)))]))
noncomputable def PQ:Nat×SO:=(125,(.dict [tA,(126875152509286,.ref 433)]))
noncomputable def PR:Nat×SO:=(123,(.dict [bZ,(126875152509286,.ref 434)]))
noncomputable def PS:Nat×SO:=(118,(.dict [(126875187113826,.ref 415),GS]))
noncomputable def PU:Nat×SO:=(108,(.dict [bZ,(126875152509286,.ref 435)]))
noncomputable def PV:Nat×SO:=(112,(.dict [bZ,(126875152509286,.ref 436)]))
noncomputable def PW:Nat×SO:=(116,(.dict [bZ,(126875152509286,.ref 437)]))
noncomputable def PX:Nat×SO:=(434,(.dict [Jw,Jx]))
noncomputable def PY:Nat×SO:=(415,(.list [.ref 165]))
noncomputable def PZ:Nat×SO:=(435,(.dict [Jy,Jz]))
noncomputable def Pa:Nat×SO:=(436,(.dict [J0,J9]))
noncomputable def Pb:Nat×SO:=(437,(.dict [KA,KC]))
noncomputable def Pc:Nat×SO:=(392,(.tup [(.str 1835365481),.ref 157,(.int (.c (1)))]))
noncomputable def Pd:Nat×SO:=(153,(.dict [tA,(126875152509286,.ref 433)]))
noncomputable def Pe:Nat×SO:=(151,(.dict [bZ,(126875152509286,.ref 434)]))
noncomputable def Pf:Nat×SO:=(146,(.dict [(126875187113826,.ref 415),Rj]))
noncomputable def Ph:Nat×SO:=(136,(.dict [bZ,(126875152509286,.ref 435)]))
noncomputable def Pj:Nat×SO:=(140,(.dict [bZ,(126875152509286,.ref 436)]))
noncomputable def Pk:Nat×SO:=(144,(.dict [bZ,(126875152509286,.ref 437)]))
noncomputable def Pm:Nat×SO:=(392,(.tup [(.str 1819043171),.ref 159]))
noncomputable def Pn:Nat×SO:=(156,(.dict [(126875187113826,.ref 402),(495756604521,.ref 155)]))
noncomputable def Po:Nat×SO:=(125,(.dict [tA,(126875152509286,.ref 444)]))
noncomputable def Pp:Nat×SO:=(153,(.dict [tA,(126875152509286,.ref 445)]))
noncomputable def Pq:Nat×SO:=(123,(.dict [bZ,(126875152509286,.ref 446)]))
noncomputable def Pr:Nat×SO:=(118,(.dict [(126875187113826,.ref 412),GS]))
noncomputable def Pt:Nat×SO:=(151,(.dict [bZ,(126875152509286,.ref 447)]))
noncomputable def Pu:Nat×SO:=(146,(.dict [(126875187113826,.ref 431),Rj]))
noncomputable def Pw:Nat×SO:=(108,(.dict [bZ,(126875152509286,.ref 448)]))
noncomputable def Px:Nat×SO:=(112,(.dict [bZ,(126875152509286,.ref 449)]))
noncomputable def Py:Nat×SO:=(116,(.dict [bZ,(126875152509286,.ref 450)]))
noncomputable def Pz:Nat×SO:=(136,(.dict [bZ,(126875152509286,.ref 451)]))
noncomputable def P0:Nat×SO:=(140,(.dict [bZ,(126875152509286,.ref 452)]))
noncomputable def P1:Nat×SO:=(144,(.dict [bZ,(126875152509286,.ref 453)]))
noncomputable def P2:Nat×SO:=(402,(.list [.ref 97]))
noncomputable def P4:Nat×SO:=(392,(.tup [(.str 435459550323),.ref 119,(.int (.c (0))),.ref 393]))
noncomputable def P6:Nat×SO:=(393,(.tup [(.int (.c (1))),(.int (.c (2)))]))
noncomputable def BI:Nat×SO:=(300,(.inst 131 301))
noncomputable def BJ:Nat×SO:=(301,(.dict [(126875187113826,.ref 302),(495756604521,.ref 304)]))
noncomputable def BM:Nat×SO:=(302,(.list [.ref 303]))
noncomputable def P7:Nat×SO:=(303,(.tup [(.int (.c (1))),(.int (.c (2)))]))
noncomputable def BN:Nat×SO:=(304,(.list [.ref 305,.ref 308]))
noncomputable def BO:Nat×SO:=(305,(.inst 152 306))
noncomputable def BP:Nat×SO:=(306,(.dict [bZ,(126875152509286,.ref 307)]))
noncomputable def BQ:Nat×SO:=(307,(.dict [Ri,(121,(.int (.v 37)))]))
noncomputable def BS:Nat×SO:=(308,(.inst 152 309))
noncomputable def BU:Nat×SO:=(309,(.dict [bZ,(126875152509286,.ref 310)]))
noncomputable def BV:Nat×SO:=(310,(.dict [(120,(.int (.v 38))),(121,(.int (.v 39)))]))
noncomputable def P8:Nat×SO:=(108,(.dict [bZ,(126875152509286,.ref 421)]))
noncomputable def P9:Nat×SO:=(112,(.dict [bZ,(126875152509286,.ref 422)]))
noncomputable def BW:Nat×SO:=(421,(.dict [Ri,(121,(.int (.v 37)))]))
noncomputable def BX:Nat×SO:=(422,(.dict [(120,(.int (.v 38))),(121,(.int (.v 39)))]))
noncomputable def QA:Nat×SO:=(303,(.tup [(.int (.c (2))),(.int (.c (3)))]))
noncomputable def QB:Nat×SO:=(392,(.tup [(.str 435459550323),.ref 119,(.int (.c (1))),.ref 393]))
noncomputable def QC:Nat×SO:=(393,(.tup [(.int (.c (2))),(.int (.c (3)))]))
noncomputable def QD:Nat×SO:=(112,(.dict [bZ,(126875152509286,.ref 421)]))
noncomputable def QE:Nat×SO:=(116,(.dict [bZ,(126875152509286,.ref 422)]))
noncomputable def QF:Nat×SO:=(90,(.dict [(97,.ref 92),(98,.ref 94)]))
noncomputable def Ge:Sm:=⟨[(.int (.v 0))],[],400,[⟨(.int (.v 0)),[],[]⟩]⟩
theorem Ru:aK (ai (NL P) 4) (nY P) Ge=true:=by nofun
noncomputable def Gf:Sm:=⟨[.ref 109],[jX,jE,jY],400,[⟨.ref 402,[],[(402,(.inst 152 401)),(401,(.dict [(1701869940,.ref 19),(126875152509286,.ref 400)])),(400,(.dict [Iv,Iw]))]⟩]⟩
theorem Rv:aK (ai (NL P) 9) (nY P) Gf=true:=by nofun
noncomputable def Gg:Sm:=⟨[(.int (.v 0)),(.int (.v 1))],[],400,[⟨(.int (.v 1)),[],[]⟩]⟩
theorem Rw:aK (ai (NL P) 5) (nZ P) Gg=true:=by nofun
noncomputable def Gh:Sm:=⟨[.ref 109,.ref 113],[jX,jE,jY,kU,kH,kW],400,[⟨.ref 109,[(108,(.dict [(1701869940,.ref 19),(126875152509286,.ref 400)]))],[(400,(.dict [GJ,GK]))]⟩]⟩
theorem Rx:aK (ai (NL P) 10) (nZ P) Gh=true:=by nofun
noncomputable def Gi:Sm:=⟨[(.int (.v 0))],[],400,[⟨.ref 401,[],[(401,(.list [(.int (.v 0))]))]⟩]⟩
theorem Ry:aK (ai (NL P) 4) (nc P) Gi=true:=by nofun
noncomputable def Gj:Sm:=⟨[.ref 109],[jX,jE,jY],400,[⟨.ref 402,[],[(402,(.list [(.int (.v 3)),(.int (.v 4))]))]⟩]⟩
theorem Rz:aK (ai (NL P) 9) (nc P) Gj=true:=by nofun
noncomputable def cp1:List (Nat×Sm):=[(10,Gf),(5,Ge)]
theorem Gk {P:Params} {mg mb:Str→Option Value} {h:Heap} (PG:aY (cG P) (KK P) mg mb h):bg P h 168 cp1:=⟨aA (nk PG) rfl (il P) (Rv P),aA (nk PG) rfl (il P) (Ru P),trivial⟩
noncomputable def kp1:List (Nat×Sm):=[(11,Gh),(6,Gg)]
theorem Gl {P:Params} {mg mb:Str→Option Value} {h:Heap} (PG:aY (cG P) (KK P) mg mb h):bg P h 175 kp1:=⟨aA (nk PG) rfl (ip P) (Rx P),aA (nk PG) rfl (ip P) (Rw P),trivial⟩
noncomputable def fl1:List (Nat×Sm):=[(10,Gj),(5,Gi)]
theorem Gm {P:Params} {mg mb:Str→Option Value} {h:Heap} (PG:aY (cG P) (KK P) mg mb h):bg P h 703 fl1:=⟨aA (nk PG) rfl (iq P) (Rz P),aA (nk PG) rfl (iq P) (Ry P),trivial⟩
def Gn:Pg:=dK (dK (dK (NL P) 168 (sumF cp1)) 175 (sumF kp1)) 703 (sumF fl1)
theorem mx {P:Params} {mg mb:Str→Option Value} {h:Heap} (PG:aY (cG P) (KK P) mg mb h):aY (Gn P) (KK P) mg mb h:=bC (bC (bC (nk PG) (il P).kp (bu (Gk PG))) (ip P).kp (bu (Gl PG))) (iq P).kp (bu (Gm PG))
noncomputable def Gp:Sm:=⟨[.ref 119],[f9,fw,i6,gA,jX,kU,dr,jE,kH,dd,jY,kW,du],400,[⟨.ref 412,[],[(412,(.inst 131 411)),(411,(.dict [(126875187113826,.ref 400),(495756604521,.ref 401)])),(400,(.list [.ref 102])),(401,(.list [.ref 402,.ref 405,.ref 408])),Xf,(405,(.inst 152 406)),(408,(.inst 152 409)),(403,(.dict [(1701869940,.ref 19),(126875152509286,.ref 404)])),(406,(.dict [(1701869940,.ref 19),(126875152509286,.ref 407)])),(409,(.dict [(1701869940,.ref 19),(126875152509286,.ref 410)])),(404,(.dict [Iv,Iw])),(407,(.dict [GJ,GK])),(410,(.dict [NQ,NR]))]⟩]⟩
theorem R0:aK (ai (Gn P) 16) (nY P) Gp=true:=by nofun
noncomputable def Gq:Sm:=⟨[.ref 119,.ref 147],[f9,fw,i6,gA,jX,kU,dr,jE,kH,dd,jY,kW,du,fL,ew,fM,fN,gP,kX,kY,gE,jZ,ja,gQ,kZ,ke],400,[⟨.ref 119,[Xg,(108,(.dict [(1701869940,.ref 19),(126875152509286,.ref 401)])),(112,(.dict [(1701869940,.ref 19),(126875152509286,.ref 402)])),(116,(.dict [(1701869940,.ref 19),(126875152509286,.ref 403)]))],[(401,(.dict [NS,NT])),(402,(.dict [RW,RX])),(403,(.dict [yg,yh]))]⟩]⟩
theorem R1:aK (ai (Gn P) 16) (nZ P) Gq=true:=by nofun
noncomputable def Gr:Sm:=⟨[.ref 119],[f9,fw,i6,gA,jX,kU,dr,jE,kH,dd,jY,kW,du],400,[⟨.ref 401,[],[(401,(.list [(.int (.v 3)),(.int (.v 4)),(.int (.v 5)),(.int (.v 6)),(.int (.v 7)),(.int (.v 8))]))]⟩]⟩
theorem R2:aK (ai (Gn P) 15) (nc P) Gr=true:=by nofun
def cp2:List (Nat×Sm):=[(17,Gp)]++cp1
theorem Gu {P:Params} {mg mb:Str→Option Value} {h:Heap} (PG:aY (cG P) (KK P) mg mb h):bg P h 168 cp2:=bg.append ⟨aA (mx PG) rfl (il P) (R0 P),trivial⟩ (Gk PG)
def kp2:List (Nat×Sm):=[(17,Gq)]++kp1
theorem Gv {P:Params} {mg mb:Str→Option Value} {h:Heap} (PG:aY (cG P) (KK P) mg mb h):bg P h 175 kp2:=bg.append ⟨aA (mx PG) rfl (ip P) (R1 P),trivial⟩ (Gl PG)
def fl2:List (Nat×Sm):=[(16,Gr)]++fl1
theorem Gw {P:Params} {mg mb:Str→Option Value} {h:Heap} (PG:aY (cG P) (KK P) mg mb h):bg P h 703 fl2:=bg.append ⟨aA (mx PG) rfl (iq P) (R2 P),trivial⟩ (Gm PG)
def Gx:Pg:=dK (dK (dK (Gn P) 168 (sumF cp2)) 175 (sumF kp2)) 703 (sumF fl2)
theorem my {P:Params} {mg mb:Str→Option Value} {h:Heap} (PG:aY (cG P) (KK P) mg mb h):aY (Gx P) (KK P) mg mb h:=bC (bC (bC (mx PG) (il P).kp (bu (Gu PG))) (ip P).kp (bu (Gv PG))) (iq P).kp (bu (Gw PG))
noncomputable def Gy:Sm:=⟨[.ref 126],[dN,dA,dO,gR,f9,gF,fw,gS,i6,gA,jX,kU,dr,jE,kH,dd,jY,kW,du],400,[⟨.ref 418,[],[(418,(.inst 152 417)),(417,(.dict [(1701869940,.ref 54),(126875152509286,.ref 400)])),(400,(.dict [GL,(112,.ref 401),(114,.ref 404)])),(401,(.inst 152 402)),(404,(.inst 131 405)),(402,(.dict [(1701869940,.ref 19),(126875152509286,.ref 403)])),(405,(.dict [(126875187113826,.ref 406),(495756604521,.ref 407)])),(403,(.dict [yi,yj])),(406,(.list [.ref 102])),(407,(.list [.ref 408,.ref 409,.ref 410])),(408,(.inst 152 411)),(409,(.inst 152 412)),(410,(.inst 152 413)),(411,(.dict [(1701869940,.ref 19),(126875152509286,.ref 414)])),(412,(.dict [(1701869940,.ref 19),(126875152509286,.ref 415)])),(413,(.dict [(1701869940,.ref 19),(126875152509286,.ref 416)])),(414,(.dict [Iv,Iw])),(415,(.dict [GJ,GK])),(416,(.dict [NQ,NR]))]⟩]⟩
theorem R3:aK (ai (Gx P) 22) (nY P) Gy=true:=by nofun
noncomputable def Gz:Sm:=⟨[.ref 126,.ref 154],[dN,dA,dO,gR,f9,gF,fw,gS,i6,gA,jX,kU,dr,jE,kH,dd,jY,kW,du,eT,d9,eU,n8,fL,mT,ew,n9,fM,fN,gP,kX,kY,gE,jZ,ja,gQ,kZ,ke],400,[⟨.ref 126,[(125,(.dict [(1701869940,.ref 54),(126875152509286,.ref 400)])),(123,(.dict [(1701869940,.ref 19),(126875152509286,.ref 401)])),Xg,(108,(.dict [(1701869940,.ref 19),(126875152509286,.ref 402)])),(112,(.dict [(1701869940,.ref 19),(126875152509286,.ref 403)])),(116,(.dict [(1701869940,.ref 19),(126875152509286,.ref 404)]))],[(400,(.dict [GN,(112,.ref 124),(114,.ref 119)])),(401,(.dict [GO,GP])),(402,(.dict [NS,NT])),(403,(.dict [RW,RX])),(404,(.dict [yg,yh]))]⟩]⟩
theorem R4:aK (ai (Gx P) 22) (nZ P) Gz=true:=by nofun
noncomputable def G0:Sm:=⟨[.ref 126],[dN,dA,dO,gR,f9,gF,fw,gS,i6,gA,jX,kU,dr,jE,kH,dd,jY,kW,du],400,[⟨.ref 402,[],[(402,(.list [(.int (.v 0)),(.int (.v 1)),(.int (.v 2)),(.int (.v 3)),(.int (.v 4)),(.int (.v 5)),(.int (.v 6)),(.int (.v 7)),(.int (.v 8))]))]⟩]⟩
theorem R5:aK (ai (Gx P) 21) (nc P) G0=true:=by nofun
def cp3:List (Nat×Sm):=[(23,Gy)]++cp2
theorem G1 {P:Params} {mg mb:Str→Option Value} {h:Heap} (PG:aY (cG P) (KK P) mg mb h):bg P h 168 cp3:=bg.append ⟨aA (my PG) rfl (il P) (R3 P),trivial⟩ (Gu PG)
def kp3:List (Nat×Sm):=[(23,Gz)]++kp2
theorem G2 {P:Params} {mg mb:Str→Option Value} {h:Heap} (PG:aY (cG P) (KK P) mg mb h):bg P h 175 kp3:=bg.append ⟨aA (my PG) rfl (ip P) (R4 P),trivial⟩ (Gv PG)
def fl3:List (Nat×Sm):=[(22,G0)]++fl2
theorem G3 {P:Params} {mg mb:Str→Option Value} {h:Heap} (PG:aY (cG P) (KK P) mg mb h):bg P h 703 fl3:=bg.append ⟨aA (my PG) rfl (iq P) (R5 P),trivial⟩ (Gw PG)
def G4:Pg:=dK (dK (dK (Gx P) 168 (sumF cp3)) 175 (sumF kp3)) 703 (sumF fl3)
theorem mz {P:Params} {mg mb:Str→Option Value} {h:Heap} (PG:aY (cG P) (KK P) mg mb h):aY (G4 P) (KK P) mg mb h:=bC (bC (bC (my PG) (il P).kp (bu (G1 PG))) (ip P).kp (bu (G2 PG))) (iq P).kp (bu (G3 PG))
noncomputable def G5:Sm:=⟨[.ref 157],[cC,b6,cO,cD,dN,eT,dA,d9,dO,eU,gR,f9,n8,fL,gF,fw,mT,ew,gS,i6,gA,n9,fM,fN,jX,kU,dr,gP,kX,kY,jE,kH,dd,gE,jZ,ja,jY,kW,du,gQ,kZ,ke],400,[⟨.ref 441,[],[(441,(.inst 131 440)),(440,(.dict [(126875187113826,.ref 400),(495756604521,.ref 401)])),(400,(.list [.ref 97])),(401,(.list [.ref 402,.ref 421])),Xf,(421,(.inst 152 422)),(403,(.dict [(1701869940,.ref 54),(126875152509286,.ref 404)])),(422,(.dict [(1701869940,.ref 54),(126875152509286,.ref 423)])),(404,(.dict [GL,(112,.ref 405),(114,.ref 406)])),(423,(.dict [GN,(112,.ref 424),(114,.ref 425)])),(405,(.inst 152 407)),(406,(.inst 131 408)),(424,(.inst 152 426)),(425,(.inst 131 427)),(407,(.dict [(1701869940,.ref 19),(126875152509286,.ref 409)])),(408,(.dict [(126875187113826,.ref 410),(495756604521,.ref 411)])),(426,(.dict [(1701869940,.ref 19),(126875152509286,.ref 428)])),(427,(.dict [(126875187113826,.ref 429),(495756604521,.ref 430)])),(409,(.dict [yi,yj])),(410,(.list [.ref 102])),(411,(.list [.ref 412,.ref 413,.ref 414])),(428,(.dict [GO,GP])),(429,(.list [.ref 130])),(430,(.list [.ref 431,.ref 432,.ref 433])),(412,(.inst 152 415)),(413,(.inst 152 416)),(414,(.inst 152 417)),(431,(.inst 152 434)),(432,(.inst 152 435)),(433,(.inst 152 436)),(415,(.dict [(1701869940,.ref 19),(126875152509286,.ref 418)])),(416,(.dict [(1701869940,.ref 19),(126875152509286,.ref 419)])),(417,(.dict [(1701869940,.ref 19),(126875152509286,.ref 420)])),(434,(.dict [(1701869940,.ref 19),(126875152509286,.ref 437)])),(435,(.dict [(1701869940,.ref 19),(126875152509286,.ref 438)])),(436,(.dict [(1701869940,.ref 19),(126875152509286,.ref 439)])),(418,(.dict [Iv,Iw])),(419,(.dict [GJ,GK])),(420,(.dict [NQ,NR])),(437,(.dict [NS,NT])),(438,(.dict [RW,RX])),(439,(.dict [yg,yh]))]⟩]⟩
theorem R6:aK (ai (G4 P) 29) (nY P) G5=true:=by nofun
noncomputable def G7:Sm:=⟨[.ref 157,.ref 220],[cC,b6,cO,cD,dN,eT,dA,d9,dO,eU,gR,f9,n8,fL,gF,fw,mT,ew,gS,i6,gA,n9,fM,fN,jX,kU,dr,gP,kX,kY,jE,kH,dd,gE,jZ,ja,jY,kW,du,gQ,kZ,ke,cZ,cT,cf,cg,fi,gU,fO,gG,fj,gV,yk,jb,GU,mU,uy,i7,Cb,kf,yl,jc,jd,GV,mV,mW,ym,yn,yo,GW,GX,GY,uz,u0,u4,Cc,Cd,Ce,yp,yq,yr,GZ,Ga,Gb],400,[⟨.ref 157,[(156,(.dict [(126875187113826,.ref 161),(495756604521,.ref 155)])),(125,(.dict [(1701869940,.ref 54),(126875152509286,.ref 401)])),(153,(.dict [(1701869940,.ref 54),(126875152509286,.ref 406)])),(123,(.dict [(1701869940,.ref 19),(126875152509286,.ref 402)])),(118,(.dict [(126875187113826,.ref 166),(495756604521,.ref 105)])),(151,(.dict [(1701869940,.ref 19),(126875152509286,.ref 407)])),(146,(.dict [(126875187113826,.ref 194),(495756604521,.ref 133)])),(108,(.dict [(1701869940,.ref 19),(126875152509286,.ref 403)])),(112,(.dict [(1701869940,.ref 19),(126875152509286,.ref 404)])),(116,(.dict [(1701869940,.ref 19),(126875152509286,.ref 405)])),(136,(.dict [(1701869940,.ref 19),(126875152509286,.ref 408)])),(140,(.dict [(1701869940,.ref 19),(126875152509286,.ref 409)])),(144,(.dict [(1701869940,.ref 19),(126875152509286,.ref 410)]))],[(401,(.dict [GR,(112,.ref 124),(114,.ref 119)])),(406,(.dict [RY,(112,.ref 152),(114,.ref 147)])),(402,(.dict [Jw,Jx])),(407,(.dict [RZ,Ra])),(403,(.dict [Jy,Jz])),(404,(.dict [J0,J9])),(405,(.dict [KA,KC])),(408,(.dict [Rb,Rc])),(409,(.dict [Rd,Rf])),(410,(.dict [Rg,Rh]))]⟩]⟩
theorem R7:aK (ai (G4 P) 28) (nZ P) G7=true:=by nofun
noncomputable def G8:Sm:=⟨[.ref 157],[cC,b6,cO,cD,dN,eT,dA,d9,dO,eU,gR,f9,n8,fL,gF,fw,mT,ew,gS,i6,gA,n9,fM,fN,jX,kU,dr,gP,kX,kY,jE,kH,dd,gE,jZ,ja,jY,kW,du,gQ,kZ,ke],400,[⟨.ref 401,[],[(401,(.list [(.int (.v 0)),(.int (.v 1)),(.int (.v 2)),(.int (.v 3)),(.int (.v 4)),(.int (.v 5)),(.int (.v 6)),(.int (.v 7)),(.int (.v 8)),(.int (.v 9)),(.int (.v 10)),(.int (.v 11)),(.int (.v 12)),(.int (.v 13)),(.int (.v 14)),(.int (.v 15)),(.int (.v 16)),(.int (.v 17))]))]⟩]⟩
theorem R8:aK (ai (G4 P) 27) (nc P) G8=true:=by nofun
def cp4:List (Nat×Sm):=[(30,G5)]++cp3
theorem R9 {P:Params} {mg mb:Str→Option Value} {h:Heap} (PG:aY (cG P) (KK P) mg mb h):bg P h 168 cp4:=bg.append ⟨aA (mz PG) rfl (il P) (R6 P),trivial⟩ (G1 PG)
def kp4:List (Nat×Sm):=[(29,G7)]++kp3
theorem SA {P:Params} {mg mb:Str→Option Value} {h:Heap} (PG:aY (cG P) (KK P) mg mb h):bg P h 175 kp4:=bg.append ⟨aA (mz PG) rfl (ip P) (R7 P),trivial⟩ (G2 PG)
def fl4:List (Nat×Sm):=[(28,G8)]++fl3
theorem SD {P:Params} {mg mb:Str→Option Value} {h:Heap} (PG:aY (cG P) (KK P) mg mb h):bg P h 703 fl4:=bg.append ⟨aA (mz PG) rfl (iq P) (R8 P),trivial⟩ (G3 PG)
def yt:Pg:=dK (dK (dK (G4 P) 168 (sumF cp4)) 175 (sumF kp4)) 703 (sumF fl4)
theorem iR {P:Params} {mg mb:Str→Option Value} {h:Heap} (PG:aY (cG P) (KK P) mg mb h):aY (yt P) (KK P) mg mb h:=bC (bC (bC (mz PG) (il P).kp (bu (R9 PG))) (ip P).kp (bu (SA PG))) (iq P).kp (bu (SD PG))
noncomputable def qz:Sm:=⟨[.ref 89,(.str 7305076)],[Cf,(88,.ilist)],400,[⟨.ref 400,[],[(400,(.list [(.str 97)]))]⟩,⟨.ref 400,[],[(400,(.list [(.str 98)]))]⟩]⟩
theorem Cg:aK (ai (yt P) 16) (nh P) qz=true:=by nofun
noncomputable def q7:Sm:=⟨[.ref 89,(.str 7892834)],[Cf,(88,.ilist)],400,[⟨.ref 400,[],[(400,(.list [(.str 97),(.int (.c (0)))]))]⟩,⟨.ref 400,[],[(400,(.list [(.str 97),(.int (.c (1)))]))]⟩,⟨.ref 400,[],[(400,(.list [(.str 98),(.int (.c (0)))]))]⟩,⟨.ref 400,[],[(400,(.list [(.str 98),(.int (.c (1)))]))]⟩]⟩
theorem Ci:aK (ai (yt P) 16) (nh P) q7=true:=by nofun
noncomputable def oA:Sm:=⟨[.ref 89,(.str 1919508848)],[Cf,(88,.ilist)],400,[⟨.ref 402,[],[(402,(.list [(.str 97),(.int (.c (0))),(.str 112)]))]⟩,⟨.ref 402,[],[(402,(.list [(.str 97),(.int (.c (0))),(.str 114),(.int (.c (1)))]))]⟩,⟨.ref 402,[],[(402,(.list [(.str 97),(.int (.c (0))),(.str 114),(.int (.c (2)))]))]⟩,⟨.ref 402,[],[(402,(.list [(.str 97),(.int (.c (0))),(.str 114),(.int (.c (3)))]))]⟩,⟨.ref 402,[],[(402,(.list [(.str 97),(.int (.c (1))),(.str 112)]))]⟩,⟨.ref 402,[],[(402,(.list [(.str 97),(.int (.c (1))),(.str 114),(.int (.c (1)))]))]⟩,⟨.ref 402,[],[(402,(.list [(.str 97),(.int (.c (1))),(.str 114),(.int (.c (2)))]))]⟩,⟨.ref 402,[],[(402,(.list [(.str 97),(.int (.c (1))),(.str 114),(.int (.c (3)))]))]⟩,⟨.ref 402,[],[(402,(.list [(.str 98),(.int (.c (0))),(.str 112)]))]⟩,⟨.ref 402,[],[(402,(.list [(.str 98),(.int (.c (0))),(.str 114),(.int (.c (1)))]))]⟩,⟨.ref 402,[],[(402,(.list [(.str 98),(.int (.c (0))),(.str 114),(.int (.c (2)))]))]⟩,⟨.ref 402,[],[(402,(.list [(.str 98),(.int (.c (0))),(.str 114),(.int (.c (3)))]))]⟩,⟨.ref 402,[],[(402,(.list [(.str 98),(.int (.c (1))),(.str 112)]))]⟩,⟨.ref 402,[],[(402,(.list [(.str 98),(.int (.c (1))),(.str 114),(.int (.c (1)))]))]⟩,⟨.ref 402,[],[(402,(.list [(.str 98),(.int (.c (1))),(.str 114),(.int (.c (2)))]))]⟩,⟨.ref 402,[],[(402,(.list [(.str 98),(.int (.c (1))),(.str 114),(.int (.c (3)))]))]⟩]⟩
theorem yu:aK (ai (yt P) 18) (nh P) oA=true:=by nofun
noncomputable def q8:Sm:=⟨[.ref 89,(.str 7827314)],[Cf,(88,.ilist)],400,[⟨.ref 402,[],[(402,(.list [(.str 97),(.int (.c (0))),(.str 114)]))]⟩,⟨.ref 402,[],[(402,(.list [(.str 97),(.int (.c (1))),(.str 114)]))]⟩,⟨.ref 402,[],[(402,(.list [(.str 98),(.int (.c (0))),(.str 114)]))]⟩,⟨.ref 402,[],[(402,(.list [(.str 98),(.int (.c (1))),(.str 114)]))]⟩]⟩
theorem Cj:aK (ai (yt P) 16) (nh P) q8=true:=by nofun
noncomputable def jm:Sm:=⟨[.ref 89,(.str 125779768604014)],[Cf,(88,.ilist)],400,[⟨.ref 402,[],[(402,(.list [(.str 97),(.int (.c (0))),(.str 107)]))]⟩,⟨.ref 404,[],[(404,(.list [(.str 97),(.int (.c (0))),(.str 112),(.str 120)]))]⟩,⟨.ref 404,[],[(404,(.list [(.str 97),(.int (.c (0))),(.str 112),(.str 121)]))]⟩,⟨.ref 404,[],[(404,(.list [(.str 97),(.int (.c (0))),(.str 114),(.int (.c (1))),(.str 120)]))]⟩,⟨.ref 404,[],[(404,(.list [(.str 97),(.int (.c (0))),(.str 114),(.int (.c (1))),(.str 121)]))]⟩,⟨.ref 404,[],[(404,(.list [(.str 97),(.int (.c (0))),(.str 114),(.int (.c (2))),(.str 120)]))]⟩,⟨.ref 404,[],[(404,(.list [(.str 97),(.int (.c (0))),(.str 114),(.int (.c (2))),(.str 121)]))]⟩,⟨.ref 404,[],[(404,(.list [(.str 97),(.int (.c (0))),(.str 114),(.int (.c (3))),(.str 120)]))]⟩,⟨.ref 404,[],[(404,(.list [(.str 97),(.int (.c (0))),(.str 114),(.int (.c (3))),(.str 121)]))]⟩,⟨.ref 402,[],[(402,(.list [(.str 97),(.int (.c (1))),(.str 107)]))]⟩,⟨.ref 404,[],[(404,(.list [(.str 97),(.int (.c (1))),(.str 112),(.str 120)]))]⟩,⟨.ref 404,[],[(404,(.list [(.str 97),(.int (.c (1))),(.str 112),(.str 121)]))]⟩,⟨.ref 404,[],[(404,(.list [(.str 97),(.int (.c (1))),(.str 114),(.int (.c (1))),(.str 120)]))]⟩,⟨.ref 404,[],[(404,(.list [(.str 97),(.int (.c (1))),(.str 114),(.int (.c (1))),(.str 121)]))]⟩,⟨.ref 404,[],[(404,(.list [(.str 97),(.int (.c (1))),(.str 114),(.int (.c (2))),(.str 120)]))]⟩,⟨.ref 404,[],[(404,(.list [(.str 97),(.int (.c (1))),(.str 114),(.int (.c (2))),(.str 121)]))]⟩,⟨.ref 404,[],[(404,(.list [(.str 97),(.int (.c (1))),(.str 114),(.int (.c (3))),(.str 120)]))]⟩,⟨.ref 404,[],[(404,(.list [(.str 97),(.int (.c (1))),(.str 114),(.int (.c (3))),(.str 121)]))]⟩,⟨.ref 402,[],[(402,(.list [(.str 98),(.int (.c (0))),(.str 107)]))]⟩,⟨.ref 404,[],[(404,(.list [(.str 98),(.int (.c (0))),(.str 112),(.str 120)]))]⟩,⟨.ref 404,[],[(404,(.list [(.str 98),(.int (.c (0))),(.str 112),(.str 121)]))]⟩,⟨.ref 404,[],[(404,(.list [(.str 98),(.int (.c (0))),(.str 114),(.int (.c (1))),(.str 120)]))]⟩,⟨.ref 404,[],[(404,(.list [(.str 98),(.int (.c (0))),(.str 114),(.int (.c (1))),(.str 121)]))]⟩,⟨.ref 404,[],[(404,(.list [(.str 98),(.int (.c (0))),(.str 114),(.int (.c (2))),(.str 120)]))]⟩,⟨.ref 404,[],[(404,(.list [(.str 98),(.int (.c (0))),(.str 114),(.int (.c (2))),(.str 121)]))]⟩,⟨.ref 404,[],[(404,(.list [(.str 98),(.int (.c (0))),(.str 114),(.int (.c (3))),(.str 120)]))]⟩,⟨.ref 404,[],[(404,(.list [(.str 98),(.int (.c (0))),(.str 114),(.int (.c (3))),(.str 121)]))]⟩,⟨.ref 402,[],[(402,(.list [(.str 98),(.int (.c (1))),(.str 107)]))]⟩,⟨.ref 404,[],[(404,(.list [(.str 98),(.int (.c (1))),(.str 112),(.str 120)]))]⟩,⟨.ref 404,[],[(404,(.list [(.str 98),(.int (.c (1))),(.str 112),(.str 121)]))]⟩,⟨.ref 404,[],[(404,(.list [(.str 98),(.int (.c (1))),(.str 114),(.int (.c (1))),(.str 120)]))]⟩,⟨.ref 404,[],[(404,(.list [(.str 98),(.int (.c (1))),(.str 114),(.int (.c (1))),(.str 121)]))]⟩,⟨.ref 404,[],[(404,(.list [(.str 98),(.int (.c (1))),(.str 114),(.int (.c (2))),(.str 120)]))]⟩,⟨.ref 404,[],[(404,(.list [(.str 98),(.int (.c (1))),(.str 114),(.int (.c (2))),(.str 121)]))]⟩,⟨.ref 404,[],[(404,(.list [(.str 98),(.int (.c (1))),(.str 114),(.int (.c (3))),(.str 120)]))]⟩,⟨.ref 404,[],[(404,(.list [(.str 98),(.int (.c (1))),(.str 114),(.int (.c (3))),(.str 121)]))]⟩]⟩
theorem tB:aK (ai (yt P) 18) (nh P) jm=true:=by nofun
noncomputable def pth:List (Nat×Sm):=[(19,jm),(19,oA),(17,q8),(17,q7),(17,qz)]
theorem SE {P:Params} {mg mb:Str→Option Value} {h:Heap} (PG:aY (cG P) (KK P) mg mb h):bg P h 710 pth:=⟨aA (iR PG) rfl (ni P) (tB P),aA (iR PG) rfl (ni P) (yu P),aA (iR PG) rfl (ni P) (Cj P),aA (iR PG) rfl (ni P) (Ci P),aA (iR PG) rfl (ni P) (Cg P),trivial⟩
def aN:Pg:=dK (yt P) 710 (sumF pth)
theorem aB {P:Params} {mg mb:Str→Option Value} {h:Heap} (PG:aY (cG P) (KK P) mg mb h):aY (aN P) (KK P) mg mb h:=bC (iR PG) (ni P).kp (bu (SE PG))
noncomputable def BY:Sm:=⟨[.ref 390],[Xh],400,[⟨.ref 402,[],[Xi]⟩]⟩
theorem KG:aK (ai (aN P) 16) (aU P) BY=true:=by nofun
noncomputable def BZ:Sm:=⟨[.ref 95,.ref 390],[Xh,a6],400,[⟨.ref 400,[],[(400,(.tup [(.str 1819043171),.ref 159]))]⟩]⟩
theorem KH:aK (ai (aN P) 22) (aW P) BZ=true:=by nofun
noncomputable def vG:Sm:=⟨[.ref 390],[Xj],400,[⟨.ref 403,[],[Xk]⟩]⟩
theorem G9:aK (ai (aN P) 16) (aU P) vG=true:=by nofun
noncomputable def vH:Sm:=⟨[.ref 95,.ref 390],[Xj,a6,cj,cU,cC,b6,cO,cn,cD],400,[⟨.ref 404,[],[(404,(.tup [(.str 1835365481),.ref 157,(.int (.c (0)))]))]⟩]⟩
theorem HA:aK (ai (aN P) 22) (aW P) vH=true:=by nofun
noncomputable def q9:Sm:=⟨[.ref 390],[Xl],400,[⟨.ref 405,[],[Xm]⟩]⟩
theorem Ck:aK (ai (aN P) 16) (aU P) q9=true:=by nofun
noncomputable def rA:Sm:=⟨[.ref 95,.ref 390],[Xl,a6,cj,cU,cC,b6,cO,cn,cD,dN,dA,dO],400,[⟨.ref 405,[],[(405,(.tup [(.str 431315315046),.ref 126,(.str 114)]))]⟩]⟩
theorem Cm:aK (ai (aN P) 22) (aW P) rA=true:=by nofun
noncomputable def rC:Sm:=⟨[.ref 390],[Xn],400,[⟨.ref 405,[],[Xo]⟩]⟩
theorem Cn:aK (ai (aN P) 16) (aU P) rC=true:=by nofun
noncomputable def rD:Sm:=⟨[.ref 95,.ref 390],[Xn,a6,cj,cU,cC,b6,cO,cn,cD,dN,dA,dO],400,[⟨.ref 405,[],[(405,(.tup [(.str 431315315046),.ref 126,(.str 107)]))]⟩]⟩
theorem Co:aK (ai (aN P) 22) (aW P) rD=true:=by nofun
noncomputable def rE:Sm:=⟨[.ref 390],[Xp],400,[⟨.ref 405,[],[NU]⟩]⟩
theorem Cp:aK (ai (aN P) 16) (aU P) rE=true:=by nofun
noncomputable def rG:Sm:=⟨[.ref 95,.ref 390],[Xp,a6,cj,cU,cC,b6,cO,cn,cD,dN,dA,dO],400,[⟨.ref 405,[],[(405,(.tup [(.str 431315315046),.ref 126,(.str 112)]))]⟩]⟩
theorem Cq:aK (ai (aN P) 22) (aW P) rG=true:=by nofun
noncomputable def oD:Sm:=⟨[.ref 390],[NV],400,[⟨.ref 407,[],[NW]⟩]⟩
theorem yv:aK (ai (aN P) 16) (aU P) oD=true:=by nofun
noncomputable def oE:Sm:=⟨[.ref 95,.ref 390],[NV,a6,cj,cU,cC,b6,cO,cn,cD,dN,dA,dO,gR,gF,gS],400,[⟨.ref 406,[],[(406,(.tup [(.str 431315315046),.ref 124,(.str 120)]))]⟩]⟩
theorem yw:aK (ai (aN P) 22) (aW P) oE=true:=by nofun
noncomputable def oF:Sm:=⟨[.ref 390],[NX],400,[⟨.ref 407,[],[NY]⟩]⟩
theorem yx:aK (ai (aN P) 16) (aU P) oF=true:=by nofun
noncomputable def oG:Sm:=⟨[.ref 95,.ref 390],[NX,a6,cj,cU,cC,b6,cO,cn,cD,dN,dA,dO,gR,gF,gS],400,[⟨.ref 406,[],[(406,(.tup [(.str 431315315046),.ref 124,(.str 121)]))]⟩]⟩
theorem yy:aK (ai (aN P) 22) (aW P) oG=true:=by nofun
noncomputable def oH:Sm:=⟨[.ref 390],[NZ],400,[⟨.ref 406,[],[Na]⟩]⟩
theorem yz:aK (ai (aN P) 16) (aU P) oH=true:=by nofun
noncomputable def oJ:Sm:=⟨[.ref 95,.ref 390],[NZ,a6,cj,cU,cC,b6,cO,cn,cD,dN,dA,dO,f9,fw,i6,dY,gA],400,[⟨.ref 408,[],[(408,(.tup [(.str 1835365481),.ref 119,(.int (.c (0)))]))]⟩]⟩
theorem y0:aK (ai (aN P) 22) (aW P) oJ=true:=by nofun
noncomputable def lG:Sm:=⟨[.ref 390],[Nb],400,[⟨.ref 408,[],[Nc]⟩]⟩
theorem vI:aK (ai (aN P) 16) (aU P) lG=true:=by nofun
noncomputable def lH:Sm:=⟨[.ref 95,.ref 390],[Nb,a6,cj,cU,cC,b6,cO,cn,cD,dN,dA,dO,f9,fw,i6,dY,gA,jX,jE,jY],400,[⟨.ref 409,[],[(409,(.tup [(.str 431315315046),.ref 109,(.str 120)]))]⟩]⟩
theorem vJ:aK (ai (aN P) 22) (aW P) lH=true:=by nofun
noncomputable def lI:Sm:=⟨[.ref 390],[Nd],400,[⟨.ref 408,[],[Nf]⟩]⟩
theorem vK:aK (ai (aN P) 16) (aU P) lI=true:=by nofun
noncomputable def lJ:Sm:=⟨[.ref 95,.ref 390],[Nd,a6,cj,cU,cC,b6,cO,cn,cD,dN,dA,dO,f9,fw,i6,dY,gA,jX,jE,jY],400,[⟨.ref 409,[],[(409,(.tup [(.str 431315315046),.ref 109,(.str 121)]))]⟩]⟩
theorem vL:aK (ai (aN P) 22) (aW P) lJ=true:=by nofun
noncomputable def oK:Sm:=⟨[.ref 390],[Ng],400,[⟨.ref 406,[],[Nh]⟩]⟩
theorem y4:aK (ai (aN P) 16) (aU P) oK=true:=by nofun
noncomputable def oM:Sm:=⟨[.ref 95,.ref 390],[Ng,a6,cj,cU,cC,b6,cO,cn,cD,dN,dA,dO,f9,fw,i6,dY,gA],400,[⟨.ref 408,[],[(408,(.tup [(.str 1835365481),.ref 119,(.int (.c (1)))]))]⟩]⟩
theorem y5:aK (ai (aN P) 22) (aW P) oM=true:=by nofun
noncomputable def lK:Sm:=⟨[.ref 390],[Ni],400,[⟨.ref 408,[],[Nj]⟩]⟩
theorem vM:aK (ai (aN P) 16) (aU P) lK=true:=by nofun
noncomputable def lL:Sm:=⟨[.ref 95,.ref 390],[Ni,a6,cj,cU,cC,b6,cO,cn,cD,dN,dA,dO,f9,fw,i6,dY,gA,kU,kH,kW],400,[⟨.ref 409,[],[(409,(.tup [(.str 431315315046),.ref 113,(.str 120)]))]⟩]⟩
theorem vN:aK (ai (aN P) 22) (aW P) lL=true:=by nofun
noncomputable def lM:Sm:=⟨[.ref 390],[Nk],400,[⟨.ref 408,[],[Nl]⟩]⟩
theorem vO:aK (ai (aN P) 16) (aU P) lM=true:=by nofun
noncomputable def lN:Sm:=⟨[.ref 95,.ref 390],[Nk,a6,cj,cU,cC,b6,cO,cn,cD,dN,dA,dO,f9,fw,i6,dY,gA,kU,kH,kW],400,[⟨.ref 409,[],[(409,(.tup [(.str 431315315046),.ref 113,(.str 121)]))]⟩]⟩
theorem vP:aK (ai (aN P) 22) (aW P) lN=true:=by nofun
noncomputable def oN:Sm:=⟨[.ref 390],[Nn],400,[⟨.ref 406,[],[Np]⟩]⟩
theorem y6:aK (ai (aN P) 16) (aU P) oN=true:=by nofun
noncomputable def oO:Sm:=⟨[.ref 95,.ref 390],[Nn,a6,cj,cU,cC,b6,cO,cn,cD,dN,dA,dO,f9,fw,i6,dY,gA],400,[⟨.ref 408,[],[(408,(.tup [(.str 1835365481),.ref 119,(.int (.c (2)))]))]⟩]⟩
theorem y7:aK (ai (aN P) 22) (aW P) oO=true:=by nofun
noncomputable def lO:Sm:=⟨[.ref 390],[Nq],400,[⟨.ref 408,[],[Nr]⟩]⟩
theorem vQ:aK (ai (aN P) 16) (aU P) lO=true:=by nofun
noncomputable def lP:Sm:=⟨[.ref 95,.ref 390],[Nq,a6,cj,cU,cC,b6,cO,cn,cD,dN,dA,dO,f9,fw,i6,dY,gA,dr,dd,du],400,[⟨.ref 409,[],[(409,(.tup [(.str 431315315046),.ref 117,(.str 120)]))]⟩]⟩
theorem vR:aK (ai (aN P) 22) (aW P) lP=true:=by nofun
noncomputable def lQ:Sm:=⟨[.ref 390],[Nt],400,[⟨.ref 408,[],[Nu]⟩]⟩
theorem vS:aK (ai (aN P) 16) (aU P) lQ=true:=by nofun
noncomputable def lR:Sm:=⟨[.ref 95,.ref 390],[Nt,a6,cj,cU,cC,b6,cO,cn,cD,dN,dA,dO,f9,fw,i6,dY,gA,dr,dd,du],400,[⟨.ref 409,[],[(409,(.tup [(.str 431315315046),.ref 117,(.str 121)]))]⟩]⟩
theorem vT:aK (ai (aN P) 22) (aW P) lR=true:=by nofun
noncomputable def vU:Sm:=⟨[.ref 390],[Nv],400,[⟨.ref 403,[],[Nw]⟩]⟩
theorem HB:aK (ai (aN P) 16) (aU P) vU=true:=by nofun
noncomputable def vV:Sm:=⟨[.ref 95,.ref 390],[Nv,a6,cj,cU,cC,b6,cO,cn,cD],400,[⟨.ref 404,[],[(404,(.tup [(.str 1835365481),.ref 157,(.int (.c (1)))]))]⟩]⟩
theorem HC:aK (ai (aN P) 22) (aW P) vV=true:=by nofun
noncomputable def rH:Sm:=⟨[.ref 390],[Nx],400,[⟨.ref 405,[],[Ny]⟩]⟩
theorem Cr:aK (ai (aN P) 16) (aU P) rH=true:=by nofun
noncomputable def rI:Sm:=⟨[.ref 95,.ref 390],[Nx,a6,cj,cU,cC,b6,cO,cn,cD,eT,d9,eU],400,[⟨.ref 405,[],[(405,(.tup [(.str 431315315046),.ref 154,(.str 114)]))]⟩]⟩
theorem Cs:aK (ai (aN P) 22) (aW P) rI=true:=by nofun
noncomputable def rJ:Sm:=⟨[.ref 390],[Nz],400,[⟨.ref 405,[],[N0]⟩]⟩
theorem Ct:aK (ai (aN P) 16) (aU P) rJ=true:=by nofun
noncomputable def rK:Sm:=⟨[.ref 95,.ref 390],[Nz,a6,cj,cU,cC,b6,cO,cn,cD,eT,d9,eU],400,[⟨.ref 405,[],[(405,(.tup [(.str 431315315046),.ref 154,(.str 107)]))]⟩]⟩
theorem Cu:aK (ai (aN P) 22) (aW P) rK=true:=by nofun
noncomputable def rL:Sm:=⟨[.ref 390],[N1],400,[⟨.ref 405,[],[N2]⟩]⟩
theorem Cv:aK (ai (aN P) 16) (aU P) rL=true:=by nofun
noncomputable def rM:Sm:=⟨[.ref 95,.ref 390],[N1,a6,cj,cU,cC,b6,cO,cn,cD,eT,d9,eU],400,[⟨.ref 405,[],[(405,(.tup [(.str 431315315046),.ref 154,(.str 112)]))]⟩]⟩
theorem Cw:aK (ai (aN P) 22) (aW P) rM=true:=by nofun
noncomputable def oP:Sm:=⟨[.ref 390],[N3],400,[⟨.ref 407,[],[N4]⟩]⟩
theorem y8:aK (ai (aN P) 16) (aU P) oP=true:=by nofun
noncomputable def oQ:Sm:=⟨[.ref 95,.ref 390],[N3,a6,cj,cU,cC,b6,cO,cn,cD,eT,d9,eU,n8,mT,n9],400,[⟨.ref 406,[],[(406,(.tup [(.str 431315315046),.ref 152,(.str 120)]))]⟩]⟩
theorem y9:aK (ai (aN P) 22) (aW P) oQ=true:=by nofun
noncomputable def oR:Sm:=⟨[.ref 390],[N5],400,[⟨.ref 407,[],[N7]⟩]⟩
theorem zA:aK (ai (aN P) 16) (aU P) oR=true:=by nofun
noncomputable def oS:Sm:=⟨[.ref 95,.ref 390],[N5,a6,cj,cU,cC,b6,cO,cn,cD,eT,d9,eU,n8,mT,n9],400,[⟨.ref 406,[],[(406,(.tup [(.str 431315315046),.ref 152,(.str 121)]))]⟩]⟩
theorem zB:aK (ai (aN P) 22) (aW P) oS=true:=by nofun
noncomputable def oU:Sm:=⟨[.ref 390],[N8],400,[⟨.ref 406,[],[N9]⟩]⟩
theorem zC:aK (ai (aN P) 16) (aU P) oU=true:=by nofun
noncomputable def oV:Sm:=⟨[.ref 95,.ref 390],[N8,a6,cj,cU,cC,b6,cO,cn,cD,eT,d9,eU,fL,ew,fM,gX,fN],400,[⟨.ref 408,[],[(408,(.tup [(.str 1835365481),.ref 147,(.int (.c (0)))]))]⟩]⟩
theorem zD:aK (ai (aN P) 22) (aW P) oV=true:=by nofun
noncomputable def lS:Sm:=⟨[.ref 390],[OA],400,[⟨.ref 408,[],[OB]⟩]⟩
theorem vW:aK (ai (aN P) 16) (aU P) lS=true:=by nofun
noncomputable def lT:Sm:=⟨[.ref 95,.ref 390],[OA,a6,cj,cU,cC,b6,cO,cn,cD,eT,d9,eU,fL,ew,fM,gX,fN,gP,gE,gQ],400,[⟨.ref 409,[],[(409,(.tup [(.str 431315315046),.ref 137,(.str 120)]))]⟩]⟩
theorem vX:aK (ai (aN P) 22) (aW P) lT=true:=by nofun
noncomputable def lU:Sm:=⟨[.ref 390],[OC],400,[⟨.ref 408,[],[OD]⟩]⟩
theorem vY:aK (ai (aN P) 16) (aU P) lU=true:=by nofun
noncomputable def lW:Sm:=⟨[.ref 95,.ref 390],[OC,a6,cj,cU,cC,b6,cO,cn,cD,eT,d9,eU,fL,ew,fM,gX,fN,gP,gE,gQ],400,[⟨.ref 409,[],[(409,(.tup [(.str 431315315046),.ref 137,(.str 121)]))]⟩]⟩
theorem vZ:aK (ai (aN P) 22) (aW P) lW=true:=by nofun
noncomputable def oW:Sm:=⟨[.ref 390],[OE],400,[⟨.ref 406,[],[OF]⟩]⟩
theorem zE:aK (ai (aN P) 16) (aU P) oW=true:=by nofun
noncomputable def oX:Sm:=⟨[.ref 95,.ref 390],[OE,a6,cj,cU,cC,b6,cO,cn,cD,eT,d9,eU,fL,ew,fM,gX,fN],400,[⟨.ref 408,[],[(408,(.tup [(.str 1835365481),.ref 147,(.int (.c (1)))]))]⟩]⟩
theorem zF:aK (ai (aN P) 22) (aW P) oX=true:=by nofun
noncomputable def lX:Sm:=⟨[.ref 390],[OG],400,[⟨.ref 408,[],[OH]⟩]⟩
theorem vd:aK (ai (aN P) 16) (aU P) lX=true:=by nofun
noncomputable def lY:Sm:=⟨[.ref 95,.ref 390],[OG,a6,cj,cU,cC,b6,cO,cn,cD,eT,d9,eU,fL,ew,fM,gX,fN,kX,jZ,kZ],400,[⟨.ref 409,[],[(409,(.tup [(.str 431315315046),.ref 141,(.str 120)]))]⟩]⟩
theorem ve:aK (ai (aN P) 22) (aW P) lY=true:=by nofun
noncomputable def lZ:Sm:=⟨[.ref 390],[OI],400,[⟨.ref 408,[],[OJ]⟩]⟩
theorem vg:aK (ai (aN P) 16) (aU P) lZ=true:=by nofun
noncomputable def la:Sm:=⟨[.ref 95,.ref 390],[OI,a6,cj,cU,cC,b6,cO,cn,cD,eT,d9,eU,fL,ew,fM,gX,fN,kX,jZ,kZ],400,[⟨.ref 409,[],[(409,(.tup [(.str 431315315046),.ref 141,(.str 121)]))]⟩]⟩
theorem vh:aK (ai (aN P) 22) (aW P) la=true:=by nofun
noncomputable def oY:Sm:=⟨[.ref 390],[OK],400,[⟨.ref 406,[],[OL]⟩]⟩
theorem zG:aK (ai (aN P) 16) (aU P) oY=true:=by nofun
noncomputable def oZ:Sm:=⟨[.ref 95,.ref 390],[OK,a6,cj,cU,cC,b6,cO,cn,cD,eT,d9,eU,fL,ew,fM,gX,fN],400,[⟨.ref 408,[],[(408,(.tup [(.str 1835365481),.ref 147,(.int (.c (2)))]))]⟩]⟩
theorem zH:aK (ai (aN P) 22) (aW P) oZ=true:=by nofun
noncomputable def lb:Sm:=⟨[.ref 390],[OM],400,[⟨.ref 408,[],[ON]⟩]⟩
theorem vj:aK (ai (aN P) 16) (aU P) lb=true:=by nofun
noncomputable def lg:Sm:=⟨[.ref 95,.ref 390],[OM,a6,cj,cU,cC,b6,cO,cn,cD,eT,d9,eU,fL,ew,fM,gX,fN,kY,ja,ke],400,[⟨.ref 409,[],[(409,(.tup [(.str 431315315046),.ref 145,(.str 120)]))]⟩]⟩
theorem vn:aK (ai (aN P) 22) (aW P) lg=true:=by nofun
noncomputable def lh:Sm:=⟨[.ref 390],[OO],400,[⟨.ref 408,[],[OP]⟩]⟩
theorem vq:aK (ai (aN P) 16) (aU P) lh=true:=by nofun
noncomputable def lj:Sm:=⟨[.ref 95,.ref 390],[OO,a6,cj,cU,cC,b6,cO,cn,cD,eT,d9,eU,fL,ew,fM,gX,fN,kY,ja,ke],400,[⟨.ref 409,[],[(409,(.tup [(.str 431315315046),.ref 145,(.str 121)]))]⟩]⟩
theorem vw:aK (ai (aN P) 22) (aW P) lj=true:=by nofun
noncomputable def Ba:Sm:=⟨[.ref 390],[OQ],400,[⟨.ref 402,[],[Xi]⟩]⟩
theorem KI:aK (ai (aN P) 16) (aU P) Ba=true:=by nofun
noncomputable def Bb:Sm:=⟨[.ref 95,.ref 390],[OQ,a6],400,[⟨.ref 400,[],[(400,(.tup [(.str 1819043171),.ref 222]))]⟩]⟩
theorem KJ:aK (ai (aN P) 22) (aW P) Bb=true:=by nofun
noncomputable def vx:Sm:=⟨[.ref 390],[OS],400,[⟨.ref 403,[],[Xk]⟩]⟩
theorem HD:aK (ai (aN P) 16) (aU P) vx=true:=by nofun
noncomputable def vz:Sm:=⟨[.ref 95,.ref 390],[OS,a6,ba,bU,cZ,cT,cf,bV,cg],400,[⟨.ref 404,[],[(404,(.tup [(.str 1835365481),.ref 220,(.int (.c (0)))]))]⟩]⟩
theorem HE:aK (ai (aN P) 22) (aW P) vz=true:=by nofun
noncomputable def rN:Sm:=⟨[.ref 390],[OT],400,[⟨.ref 405,[],[Xm]⟩]⟩
theorem Cy:aK (ai (aN P) 16) (aU P) rN=true:=by nofun
noncomputable def rO:Sm:=⟨[.ref 95,.ref 390],[OT,a6,ba,bU,cZ,cT,cf,bV,cg,fi,fO,fj],400,[⟨.ref 405,[],[(405,(.tup [(.str 431315315046),.ref 189,(.str 114)]))]⟩]⟩
theorem Cz:aK (ai (aN P) 22) (aW P) rO=true:=by nofun
noncomputable def rP:Sm:=⟨[.ref 390],[OU],400,[⟨.ref 405,[],[Xo]⟩]⟩
theorem C1:aK (ai (aN P) 16) (aU P) rP=true:=by nofun
noncomputable def rQ:Sm:=⟨[.ref 95,.ref 390],[OU,a6,ba,bU,cZ,cT,cf,bV,cg,fi,fO,fj],400,[⟨.ref 405,[],[(405,(.tup [(.str 431315315046),.ref 189,(.str 107)]))]⟩]⟩
theorem C2:aK (ai (aN P) 22) (aW P) rQ=true:=by nofun
noncomputable def rR:Sm:=⟨[.ref 390],[OV],400,[⟨.ref 405,[],[NU]⟩]⟩
theorem C3:aK (ai (aN P) 16) (aU P) rR=true:=by nofun
noncomputable def rS:Sm:=⟨[.ref 95,.ref 390],[OV,a6,ba,bU,cZ,cT,cf,bV,cg,fi,fO,fj],400,[⟨.ref 405,[],[(405,(.tup [(.str 431315315046),.ref 189,(.str 112)]))]⟩]⟩
theorem C4:aK (ai (aN P) 22) (aW P) rS=true:=by nofun
noncomputable def og:Sm:=⟨[.ref 390],[OW],400,[⟨.ref 407,[],[NW]⟩]⟩
theorem zI:aK (ai (aN P) 16) (aU P) og=true:=by nofun
noncomputable def oh:Sm:=⟨[.ref 95,.ref 390],[OW,a6,ba,bU,cZ,cT,cf,bV,cg,fi,fO,fj,yk,uy,yl],400,[⟨.ref 406,[],[(406,(.tup [(.str 431315315046),.ref 187,(.str 120)]))]⟩]⟩
theorem zJ:aK (ai (aN P) 22) (aW P) oh=true:=by nofun
noncomputable def oi:Sm:=⟨[.ref 390],[OX],400,[⟨.ref 407,[],[NY]⟩]⟩
theorem zK:aK (ai (aN P) 16) (aU P) oi=true:=by nofun
noncomputable def oj:Sm:=⟨[.ref 95,.ref 390],[OX,a6,ba,bU,cZ,cT,cf,bV,cg,fi,fO,fj,yk,uy,yl],400,[⟨.ref 406,[],[(406,(.tup [(.str 431315315046),.ref 187,(.str 121)]))]⟩]⟩
theorem zL:aK (ai (aN P) 22) (aW P) oj=true:=by nofun
noncomputable def oo:Sm:=⟨[.ref 390],[OY],400,[⟨.ref 406,[],[Na]⟩]⟩
theorem zM:aK (ai (aN P) 16) (aU P) oo=true:=by nofun
noncomputable def oq:Sm:=⟨[.ref 95,.ref 390],[OY,a6,ba,bU,cZ,cT,cf,bV,cg,fi,fO,fj,jb,i7,jc,ir,jd],400,[⟨.ref 408,[],[(408,(.tup [(.str 1835365481),.ref 182,(.int (.c (0)))]))]⟩]⟩
theorem zN:aK (ai (aN P) 22) (aW P) oq=true:=by nofun
noncomputable def ll:Sm:=⟨[.ref 390],[OZ],400,[⟨.ref 408,[],[Nc]⟩]⟩
theorem wA:aK (ai (aN P) 16) (aU P) ll=true:=by nofun
noncomputable def lp:Sm:=⟨[.ref 95,.ref 390],[OZ,a6,ba,bU,cZ,cT,cf,bV,cg,fi,fO,fj,jb,i7,jc,ir,jd,ym,uz,yp],400,[⟨.ref 409,[],[(409,(.tup [(.str 431315315046),.ref 172,(.str 120)]))]⟩]⟩
theorem wB:aK (ai (aN P) 22) (aW P) lp=true:=by nofun
noncomputable def lr:Sm:=⟨[.ref 390],[Oa],400,[⟨.ref 408,[],[Nf]⟩]⟩
theorem wC:aK (ai (aN P) 16) (aU P) lr=true:=by nofun
noncomputable def lu:Sm:=⟨[.ref 95,.ref 390],[Oa,a6,ba,bU,cZ,cT,cf,bV,cg,fi,fO,fj,jb,i7,jc,ir,jd,ym,uz,yp],400,[⟨.ref 409,[],[(409,(.tup [(.str 431315315046),.ref 172,(.str 121)]))]⟩]⟩
theorem wD:aK (ai (aN P) 22) (aW P) lu=true:=by nofun
noncomputable def ot:Sm:=⟨[.ref 390],[Ob],400,[⟨.ref 406,[],[Nh]⟩]⟩
theorem zO:aK (ai (aN P) 16) (aU P) ot=true:=by nofun
noncomputable def ou:Sm:=⟨[.ref 95,.ref 390],[Ob,a6,ba,bU,cZ,cT,cf,bV,cg,fi,fO,fj,jb,i7,jc,ir,jd],400,[⟨.ref 408,[],[(408,(.tup [(.str 1835365481),.ref 182,(.int (.c (1)))]))]⟩]⟩
theorem zP:aK (ai (aN P) 22) (aW P) ou=true:=by nofun
noncomputable def ly:Sm:=⟨[.ref 390],[Oc],400,[⟨.ref 408,[],[Nj]⟩]⟩
theorem wF:aK (ai (aN P) 16) (aU P) ly=true:=by nofun
noncomputable def lz:Sm:=⟨[.ref 95,.ref 390],[Oc,a6,ba,bU,cZ,cT,cf,bV,cg,fi,fO,fj,jb,i7,jc,ir,jd,yn,u0,yq],400,[⟨.ref 409,[],[(409,(.tup [(.str 431315315046),.ref 176,(.str 120)]))]⟩]⟩
theorem wG:aK (ai (aN P) 22) (aW P) lz=true:=by nofun
noncomputable def l5:Sm:=⟨[.ref 390],[Od],400,[⟨.ref 408,[],[Nl]⟩]⟩
theorem wH:aK (ai (aN P) 16) (aU P) l5=true:=by nofun
noncomputable def l8:Sm:=⟨[.ref 95,.ref 390],[Od,a6,ba,bU,cZ,cT,cf,bV,cg,fi,fO,fj,jb,i7,jc,ir,jd,yn,u0,yq],400,[⟨.ref 409,[],[(409,(.tup [(.str 431315315046),.ref 176,(.str 121)]))]⟩]⟩
theorem wI:aK (ai (aN P) 22) (aW P) l8=true:=by nofun
noncomputable def ow:Sm:=⟨[.ref 390],[Oe],400,[⟨.ref 406,[],[Np]⟩]⟩
theorem zQ:aK (ai (aN P) 16) (aU P) ow=true:=by nofun
noncomputable def oy:Sm:=⟨[.ref 95,.ref 390],[Oe,a6,ba,bU,cZ,cT,cf,bV,cg,fi,fO,fj,jb,i7,jc,ir,jd],400,[⟨.ref 408,[],[(408,(.tup [(.str 1835365481),.ref 182,(.int (.c (2)))]))]⟩]⟩
theorem zR:aK (ai (aN P) 22) (aW P) oy=true:=by nofun
noncomputable def mA:Sm:=⟨[.ref 390],[Og],400,[⟨.ref 408,[],[Nr]⟩]⟩
theorem wJ:aK (ai (aN P) 16) (aU P) mA=true:=by nofun
noncomputable def mB:Sm:=⟨[.ref 95,.ref 390],[Og,a6,ba,bU,cZ,cT,cf,bV,cg,fi,fO,fj,jb,i7,jc,ir,jd,yo,u4,yr],400,[⟨.ref 409,[],[(409,(.tup [(.str 431315315046),.ref 180,(.str 120)]))]⟩]⟩
theorem wK:aK (ai (aN P) 22) (aW P) mB=true:=by nofun
noncomputable def mC:Sm:=⟨[.ref 390],[Oh],400,[⟨.ref 408,[],[Nu]⟩]⟩
theorem wL:aK (ai (aN P) 16) (aU P) mC=true:=by nofun
noncomputable def mD:Sm:=⟨[.ref 95,.ref 390],[Oh,a6,ba,bU,cZ,cT,cf,bV,cg,fi,fO,fj,jb,i7,jc,ir,jd,yo,u4,yr],400,[⟨.ref 409,[],[(409,(.tup [(.str 431315315046),.ref 180,(.str 121)]))]⟩]⟩
theorem wM:aK (ai (aN P) 22) (aW P) mD=true:=by nofun
noncomputable def wN:Sm:=⟨[.ref 390],[Oi],400,[⟨.ref 403,[],[Nw]⟩]⟩
theorem HF:aK (ai (aN P) 16) (aU P) wN=true:=by nofun
noncomputable def wO:Sm:=⟨[.ref 95,.ref 390],[Oi,a6,ba,bU,cZ,cT,cf,bV,cg],400,[⟨.ref 404,[],[(404,(.tup [(.str 1835365481),.ref 220,(.int (.c (1)))]))]⟩]⟩
theorem HG:aK (ai (aN P) 22) (aW P) wO=true:=by nofun
noncomputable def rU:Sm:=⟨[.ref 390],[Oj],400,[⟨.ref 405,[],[Ny]⟩]⟩
theorem C5:aK (ai (aN P) 16) (aU P) rU=true:=by nofun
noncomputable def rV:Sm:=⟨[.ref 95,.ref 390],[Oj,a6,ba,bU,cZ,cT,cf,bV,cg,gU,gG,gV],400,[⟨.ref 405,[],[(405,(.tup [(.str 431315315046),.ref 217,(.str 114)]))]⟩]⟩
theorem C6:aK (ai (aN P) 22) (aW P) rV=true:=by nofun
noncomputable def rW:Sm:=⟨[.ref 390],[Ol],400,[⟨.ref 405,[],[N0]⟩]⟩
theorem C7:aK (ai (aN P) 16) (aU P) rW=true:=by nofun
noncomputable def rX:Sm:=⟨[.ref 95,.ref 390],[Ol,a6,ba,bU,cZ,cT,cf,bV,cg,gU,gG,gV],400,[⟨.ref 405,[],[(405,(.tup [(.str 431315315046),.ref 217,(.str 107)]))]⟩]⟩
theorem C8:aK (ai (aN P) 22) (aW P) rX=true:=by nofun
noncomputable def rY:Sm:=⟨[.ref 390],[Om],400,[⟨.ref 405,[],[N2]⟩]⟩
theorem C9:aK (ai (aN P) 16) (aU P) rY=true:=by nofun
noncomputable def rZ:Sm:=⟨[.ref 95,.ref 390],[Om,a6,ba,bU,cZ,cT,cf,bV,cg,gU,gG,gV],400,[⟨.ref 405,[],[(405,(.tup [(.str 431315315046),.ref 217,(.str 112)]))]⟩]⟩
theorem DA:aK (ai (aN P) 22) (aW P) rZ=true:=by nofun
noncomputable def oz:Sm:=⟨[.ref 390],[Oo],400,[⟨.ref 407,[],[N4]⟩]⟩
theorem zS:aK (ai (aN P) 16) (aU P) oz=true:=by nofun
noncomputable def pA:Sm:=⟨[.ref 95,.ref 390],[Oo,a6,ba,bU,cZ,cT,cf,bV,cg,gU,gG,gV,GU,Cb,GV],400,[⟨.ref 406,[],[(406,(.tup [(.str 431315315046),.ref 215,(.str 120)]))]⟩]⟩
theorem zT:aK (ai (aN P) 22) (aW P) pA=true:=by nofun
noncomputable def pB:Sm:=⟨[.ref 390],[Oq],400,[⟨.ref 407,[],[N7]⟩]⟩
theorem zU:aK (ai (aN P) 16) (aU P) pB=true:=by nofun
noncomputable def pC:Sm:=⟨[.ref 95,.ref 390],[Oq,a6,ba,bU,cZ,cT,cf,bV,cg,gU,gG,gV,GU,Cb,GV],400,[⟨.ref 406,[],[(406,(.tup [(.str 431315315046),.ref 215,(.str 121)]))]⟩]⟩
theorem zV:aK (ai (aN P) 22) (aW P) pC=true:=by nofun
noncomputable def pD:Sm:=⟨[.ref 390],[Ot],400,[⟨.ref 406,[],[N9]⟩]⟩
theorem zW:aK (ai (aN P) 16) (aU P) pD=true:=by nofun
noncomputable def pE:Sm:=⟨[.ref 95,.ref 390],[Ot,a6,ba,bU,cZ,cT,cf,bV,cg,gU,gG,gV,mU,kf,mV,iu,mW],400,[⟨.ref 408,[],[(408,(.tup [(.str 1835365481),.ref 210,(.int (.c (0)))]))]⟩]⟩
theorem zX:aK (ai (aN P) 22) (aW P) pE=true:=by nofun
noncomputable def mF:Sm:=⟨[.ref 390],[Ou],400,[⟨.ref 408,[],[OB]⟩]⟩
theorem wQ:aK (ai (aN P) 16) (aU P) mF=true:=by nofun
noncomputable def mG:Sm:=⟨[.ref 95,.ref 390],[Ou,a6,ba,bU,cZ,cT,cf,bV,cg,gU,gG,gV,mU,kf,mV,iu,mW,GW,Cc,GZ],400,[⟨.ref 409,[],[(409,(.tup [(.str 431315315046),.ref 200,(.str 120)]))]⟩]⟩
theorem wR:aK (ai (aN P) 22) (aW P) mG=true:=by nofun
noncomputable def mH:Sm:=⟨[.ref 390],[Ov],400,[⟨.ref 408,[],[OD]⟩]⟩
theorem wU:aK (ai (aN P) 16) (aU P) mH=true:=by nofun
noncomputable def mI:Sm:=⟨[.ref 95,.ref 390],[Ov,a6,ba,bU,cZ,cT,cf,bV,cg,gU,gG,gV,mU,kf,mV,iu,mW,GW,Cc,GZ],400,[⟨.ref 409,[],[(409,(.tup [(.str 431315315046),.ref 200,(.str 121)]))]⟩]⟩
theorem wV:aK (ai (aN P) 22) (aW P) mI=true:=by nofun
noncomputable def pF:Sm:=⟨[.ref 390],[Ow],400,[⟨.ref 406,[],[OF]⟩]⟩
theorem zY:aK (ai (aN P) 16) (aU P) pF=true:=by nofun
noncomputable def pG:Sm:=⟨[.ref 95,.ref 390],[Ow,a6,ba,bU,cZ,cT,cf,bV,cg,gU,gG,gV,mU,kf,mV,iu,mW],400,[⟨.ref 408,[],[(408,(.tup [(.str 1835365481),.ref 210,(.int (.c (1)))]))]⟩]⟩
theorem zZ:aK (ai (aN P) 22) (aW P) pG=true:=by nofun
noncomputable def mJ:Sm:=⟨[.ref 390],[Ox],400,[⟨.ref 408,[],[OH]⟩]⟩
theorem wW:aK (ai (aN P) 16) (aU P) mJ=true:=by nofun
noncomputable def mK:Sm:=⟨[.ref 95,.ref 390],[Ox,a6,ba,bU,cZ,cT,cf,bV,cg,gU,gG,gV,mU,kf,mV,iu,mW,GX,Cd,Ga],400,[⟨.ref 409,[],[(409,(.tup [(.str 431315315046),.ref 204,(.str 120)]))]⟩]⟩
theorem wX:aK (ai (aN P) 22) (aW P) mK=true:=by nofun
noncomputable def mL:Sm:=⟨[.ref 390],[Oy],400,[⟨.ref 408,[],[OJ]⟩]⟩
theorem wY:aK (ai (aN P) 16) (aU P) mL=true:=by nofun
noncomputable def mM:Sm:=⟨[.ref 95,.ref 390],[Oy,a6,ba,bU,cZ,cT,cf,bV,cg,gU,gG,gV,mU,kf,mV,iu,mW,GX,Cd,Ga],400,[⟨.ref 409,[],[(409,(.tup [(.str 431315315046),.ref 204,(.str 121)]))]⟩]⟩
theorem wZ:aK (ai (aN P) 22) (aW P) mM=true:=by nofun
noncomputable def pH:Sm:=⟨[.ref 390],[Oz],400,[⟨.ref 406,[],[OL]⟩]⟩
theorem zb:aK (ai (aN P) 16) (aU P) pH=true:=by nofun
noncomputable def pI:Sm:=⟨[.ref 95,.ref 390],[Oz,a6,ba,bU,cZ,cT,cf,bV,cg,gU,gG,gV,mU,kf,mV,iu,mW],400,[⟨.ref 408,[],[(408,(.tup [(.str 1835365481),.ref 210,(.int (.c (2)))]))]⟩]⟩
theorem zc:aK (ai (aN P) 22) (aW P) pI=true:=by nofun
noncomputable def mN:Sm:=⟨[.ref 390],[O0],400,[⟨.ref 408,[],[ON]⟩]⟩
theorem wa:aK (ai (aN P) 16) (aU P) mN=true:=by nofun
noncomputable def mO:Sm:=⟨[.ref 95,.ref 390],[O0,a6,ba,bU,cZ,cT,cf,bV,cg,gU,gG,gV,mU,kf,mV,iu,mW,GY,Ce,Gb],400,[⟨.ref 409,[],[(409,(.tup [(.str 431315315046),.ref 208,(.str 120)]))]⟩]⟩
theorem wb:aK (ai (aN P) 22) (aW P) mO=true:=by nofun
noncomputable def mP:Sm:=⟨[.ref 390],[O1],400,[⟨.ref 408,[],[OP]⟩]⟩
theorem wc:aK (ai (aN P) 16) (aU P) mP=true:=by nofun
noncomputable def mQ:Sm:=⟨[.ref 95,.ref 390],[O1,a6,ba,bU,cZ,cT,cf,bV,cg,gU,gG,gV,mU,kf,mV,iu,mW,GY,Ce,Gb],400,[⟨.ref 409,[],[(409,(.tup [(.str 431315315046),.ref 208,(.str 121)]))]⟩]⟩
theorem wd:aK (ai (aN P) 22) (aW P) mQ=true:=by nofun
noncomputable def Bc:Sm:=⟨[.ref 119,(.int (.c (1))),(.int (.c (2)))],[f9,fw,i6,gA,jX,kU,dr,jE,kH,dd,jY,kW,du,dY],400,[⟨.ref 413,[],[O2,O3,O4,O5,(402,(.tup [(.int (.c (1))),(.int (.c (2)))])),O6,O7,O8,O9,(408,(.dict [Iv,Iw])),(411,(.dict [GJ,GK]))]⟩]⟩
theorem KL:aK (ai (aN P) 26) (Aw P) Bc=true:=by nofun
noncomputable def Bd:Sm:=⟨[.ref 119,(.int (.c (2))),(.int (.c (3)))],[f9,fw,i6,gA,jX,kU,dr,jE,kH,dd,jY,kW,du,dY],400,[⟨.ref 413,[],[O2,O3,O4,O5,(402,(.tup [(.int (.c (2))),(.int (.c (3)))])),O6,O7,O8,O9,(408,(.dict [GJ,GK])),(411,(.dict [NQ,NR]))]⟩]⟩
theorem KN:aK (ai (aN P) 26) (Aw P) Bd=true:=by nofun
noncomputable def spn:List (Nat×(Nat×Sm)):=[(97,(17,BY)),(353,(17,vG)),(7471457,(17,q9)),(7012705,(17,rC)),(7340385,(17,rE)),(2020606305,(17,oD)),(2037383521,(17,oF)),(41025889,(17,oH)),(515437101409,(17,lG)),(519732068705,(17,lI)),(57803105,(17,oK)),(515453878625,(17,lK)),(519748845921,(17,lM)),(74580321,(17,oN)),(515470655841,(17,lO)),(519765623137,(17,lQ)),(609,(17,vU)),(7471713,(17,rH)),(7012961,(17,rJ)),(7340641,(17,rL)),(2020606561,(17,oP)),(2037383777,(17,oR)),(41026145,(17,oU)),(515437101665,(17,lS)),(519732068961,(17,lU)),(57803361,(17,oW)),(515453878881,(17,lX)),(519748846177,(17,lZ)),(74580577,(17,oY)),(515470656097,(17,lb)),(519765623393,(17,lh)),(98,(17,Ba)),(354,(17,vx)),(7471458,(17,rN)),(7012706,(17,rP)),(7340386,(17,rR)),(2020606306,(17,og)),(2037383522,(17,oi)),(41025890,(17,oo)),(515437101410,(17,ll)),(519732068706,(17,lr)),(57803106,(17,ot)),(515453878626,(17,ly)),(519748845922,(17,l5)),(74580322,(17,ow)),(515470655842,(17,mA)),(519765623138,(17,mC)),(610,(17,wN)),(7471714,(17,rU)),(7012962,(17,rW)),(7340642,(17,rY)),(2020606562,(17,oz)),(2037383778,(17,pB)),(41026146,(17,pD)),(515437101666,(17,mF)),(519732068962,(17,mH)),(57803362,(17,pF)),(515453878882,(17,mJ)),(519748846178,(17,mL)),(74580578,(17,pH)),(515470656098,(17,mN)),(519765623394,(17,mP))]
theorem SG {P:Params} {mg mb:Str→Option Value} {h:Heap} (PG:aY (cG P) (KK P) mg mb h):AllK P h 717 spn:=⟨aA (aB PG) rfl (aV P) (KG P),aA (aB PG) rfl (aV P) (G9 P),aA (aB PG) rfl (aV P) (Ck P),aA (aB PG) rfl (aV P) (Cn P),aA (aB PG) rfl (aV P) (Cp P),aA (aB PG) rfl (aV P) (yv P),aA (aB PG) rfl (aV P) (yx P),aA (aB PG) rfl (aV P) (yz P),aA (aB PG) rfl (aV P) (vI P),aA (aB PG) rfl (aV P) (vK P),aA (aB PG) rfl (aV P) (y4 P),aA (aB PG) rfl (aV P) (vM P),aA (aB PG) rfl (aV P) (vO P),aA (aB PG) rfl (aV P) (y6 P),aA (aB PG) rfl (aV P) (vQ P),aA (aB PG) rfl (aV P) (vS P),aA (aB PG) rfl (aV P) (HB P),aA (aB PG) rfl (aV P) (Cr P),aA (aB PG) rfl (aV P) (Ct P),aA (aB PG) rfl (aV P) (Cv P),aA (aB PG) rfl (aV P) (y8 P),aA (aB PG) rfl (aV P) (zA P),aA (aB PG) rfl (aV P) (zC P),aA (aB PG) rfl (aV P) (vW P),aA (aB PG) rfl (aV P) (vY P),aA (aB PG) rfl (aV P) (zE P),aA (aB PG) rfl (aV P) (vd P),aA (aB PG) rfl (aV P) (vg P),aA (aB PG) rfl (aV P) (zG P),aA (aB PG) rfl (aV P) (vj P),aA (aB PG) rfl (aV P) (vq P),aA (aB PG) rfl (aV P) (KI P),aA (aB PG) rfl (aV P) (HD P),aA (aB PG) rfl (aV P) (Cy P),aA (aB PG) rfl (aV P) (C1 P),aA (aB PG) rfl (aV P) (C3 P),aA (aB PG) rfl (aV P) (zI P),aA (aB PG) rfl (aV P) (zK P),aA (aB PG) rfl (aV P) (zM P),aA (aB PG) rfl (aV P) (wA P),aA (aB PG) rfl (aV P) (wC P),aA (aB PG) rfl (aV P) (zO P),aA (aB PG) rfl (aV P) (wF P),aA (aB PG) rfl (aV P) (wH P),aA (aB PG) rfl (aV P) (zQ P),aA (aB PG) rfl (aV P) (wJ P),aA (aB PG) rfl (aV P) (wL P),aA (aB PG) rfl (aV P) (HF P),aA (aB PG) rfl (aV P) (C5 P),aA (aB PG) rfl (aV P) (C7 P),aA (aB PG) rfl (aV P) (C9 P),aA (aB PG) rfl (aV P) (zS P),aA (aB PG) rfl (aV P) (zU P),aA (aB PG) rfl (aV P) (zW P),aA (aB PG) rfl (aV P) (wQ P),aA (aB PG) rfl (aV P) (wU P),aA (aB PG) rfl (aV P) (zY P),aA (aB PG) rfl (aV P) (wW P),aA (aB PG) rfl (aV P) (wY P),aA (aB PG) rfl (aV P) (zb P),aA (aB PG) rfl (aV P) (wa P),aA (aB PG) rfl (aV P) (wc P),trivial⟩
noncomputable def plc:List (Nat×(Nat×Sm)):=[(97,(23,BZ)),(353,(23,vH)),(7471457,(23,rA)),(7012705,(23,rD)),(7340385,(23,rG)),(2020606305,(23,oE)),(2037383521,(23,oG)),(41025889,(23,oJ)),(515437101409,(23,lH)),(519732068705,(23,lJ)),(57803105,(23,oM)),(515453878625,(23,lL)),(519748845921,(23,lN)),(74580321,(23,oO)),(515470655841,(23,lP)),(519765623137,(23,lR)),(609,(23,vV)),(7471713,(23,rI)),(7012961,(23,rK)),(7340641,(23,rM)),(2020606561,(23,oQ)),(2037383777,(23,oS)),(41026145,(23,oV)),(515437101665,(23,lT)),(519732068961,(23,lW)),(57803361,(23,oX)),(515453878881,(23,lY)),(519748846177,(23,la)),(74580577,(23,oZ)),(515470656097,(23,lg)),(519765623393,(23,lj)),(98,(23,Bb)),(354,(23,vz)),(7471458,(23,rO)),(7012706,(23,rQ)),(7340386,(23,rS)),(2020606306,(23,oh)),(2037383522,(23,oj)),(41025890,(23,oq)),(515437101410,(23,lp)),(519732068706,(23,lu)),(57803106,(23,ou)),(515453878626,(23,lz)),(519748845922,(23,l8)),(74580322,(23,oy)),(515470655842,(23,mB)),(519765623138,(23,mD)),(610,(23,wO)),(7471714,(23,rV)),(7012962,(23,rX)),(7340642,(23,rZ)),(2020606562,(23,pA)),(2037383778,(23,pC)),(41026146,(23,pE)),(515437101666,(23,mG)),(519732068962,(23,mI)),(57803362,(23,pG)),(515453878882,(23,mK)),(519748846178,(23,mM)),(74580578,(23,pI)),(515470656098,(23,mO)),(519765623394,(23,mQ))]
theorem SH {P:Params} {mg mb:Str→Option Value} {h:Heap} (PG:aY (cG P) (KK P) mg mb h):AllK P h 724 plc:=⟨aA (aB PG) rfl (aX P) (KH P),aA (aB PG) rfl (aX P) (HA P),aA (aB PG) rfl (aX P) (Cm P),aA (aB PG) rfl (aX P) (Co P),aA (aB PG) rfl (aX P) (Cq P),aA (aB PG) rfl (aX P) (yw P),aA (aB PG) rfl (aX P) (yy P),aA (aB PG) rfl (aX P) (y0 P),aA (aB PG) rfl (aX P) (vJ P),aA (aB PG) rfl (aX P) (vL P),aA (aB PG) rfl (aX P) (y5 P),aA (aB PG) rfl (aX P) (vN P),aA (aB PG) rfl (aX P) (vP P),aA (aB PG) rfl (aX P) (y7 P),aA (aB PG) rfl (aX P) (vR P),aA (aB PG) rfl (aX P) (vT P),aA (aB PG) rfl (aX P) (HC P),aA (aB PG) rfl (aX P) (Cs P),aA (aB PG) rfl (aX P) (Cu P),aA (aB PG) rfl (aX P) (Cw P),aA (aB PG) rfl (aX P) (y9 P),aA (aB PG) rfl (aX P) (zB P),aA (aB PG) rfl (aX P) (zD P),aA (aB PG) rfl (aX P) (vX P),aA (aB PG) rfl (aX P) (vZ P),aA (aB PG) rfl (aX P) (zF P),aA (aB PG) rfl (aX P) (ve P),aA (aB PG) rfl (aX P) (vh P),aA (aB PG) rfl (aX P) (zH P),aA (aB PG) rfl (aX P) (vn P),aA (aB PG) rfl (aX P) (vw P),aA (aB PG) rfl (aX P) (KJ P),aA (aB PG) rfl (aX P) (HE P),aA (aB PG) rfl (aX P) (Cz P),aA (aB PG) rfl (aX P) (C2 P),aA (aB PG) rfl (aX P) (C4 P),aA (aB PG) rfl (aX P) (zJ P),aA (aB PG) rfl (aX P) (zL P),aA (aB PG) rfl (aX P) (zN P),aA (aB PG) rfl (aX P) (wB P),aA (aB PG) rfl (aX P) (wD P),aA (aB PG) rfl (aX P) (zP P),aA (aB PG) rfl (aX P) (wG P),aA (aB PG) rfl (aX P) (wI P),aA (aB PG) rfl (aX P) (zR P),aA (aB PG) rfl (aX P) (wK P),aA (aB PG) rfl (aX P) (wM P),aA (aB PG) rfl (aX P) (HG P),aA (aB PG) rfl (aX P) (C6 P),aA (aB PG) rfl (aX P) (C8 P),aA (aB PG) rfl (aX P) (DA P),aA (aB PG) rfl (aX P) (zT P),aA (aB PG) rfl (aX P) (zV P),aA (aB PG) rfl (aX P) (zX P),aA (aB PG) rfl (aX P) (wR P),aA (aB PG) rfl (aX P) (wV P),aA (aB PG) rfl (aX P) (zZ P),aA (aB PG) rfl (aX P) (wX P),aA (aB PG) rfl (aX P) (wZ P),aA (aB PG) rfl (aX P) (zc P),aA (aB PG) rfl (aX P) (wb P),aA (aB PG) rfl (aX P) (wd P),trivial⟩
noncomputable def slv:List (Nat×Sm):=[(27,Bc),(27,Bd)]
theorem SI {P:Params} {mg mb:Str→Option Value} {h:Heap} (PG:aY (cG P) (KK P) mg mb h):bg P h 244 slv:=⟨aA (aB PG) rfl (Ax P) (KL P),aA (aB PG) rfl (Ax P) (KN P),trivial⟩
def dz:Pg:=dK (dK (dK (aN P) 717 (Ca aAU spn)) 724 (Ca aAV plc)) 244 (sumF slv)
theorem a8 {P:Params} {mg mb:Str→Option Value} {h:Heap} (PG:aY (cG P) (KK P) mg mb h):aY (dz P) (KK P) mg mb h:=bC (bC (bC (aB PG) (aV P).kp (mw (SG PG))) (aX P).kp (mw (SH PG))) (Ax P).kp (bu (SI PG))
noncomputable def we:Sm:=⟨[.ref 392,.ref 13,(.int (.v 36))],[dN,dA,dO,BB,BC,BD,BE,BF,(392,(.tup [(.str 431315315046),.ref 126,(.str 107)]))],400,[⟨(.str 0),[(120,(.dict [(107,(.int (.v 36))),(112,.ref 124),(114,.ref 119)]))],[]⟩]⟩
theorem HH:aK (ai (dz P) 48) (bx P) we=true:=by nofun
noncomputable def wg:Sm:=⟨[.ref 392,.ref 13,(.int (.v 36))],[gR,gF,gS,BB,BC,BD,BE,BF,(392,(.tup [(.str 431315315046),.ref 124,(.str 120)]))],400,[⟨(.str 0),[(122,(.dict [Ri,yj]))],[]⟩]⟩
theorem HI:aK (ai (dz P) 48) (bx P) wg=true:=by nofun
noncomputable def wh:Sm:=⟨[.ref 392,.ref 13,(.int (.v 36))],[gR,gF,gS,BB,BC,BD,BE,BF,(392,(.tup [(.str 431315315046),.ref 124,(.str 121)]))],400,[⟨(.str 0),[(122,(.dict [yi,(121,(.int (.v 36)))]))],[]⟩]⟩
theorem HJ:aK (ai (dz P) 48) (bx P) wh=true:=by nofun
noncomputable def rb:Sm:=⟨[.ref 392,.ref 87,.ref 124],[dN,dA,dO,gR,gF,gS,je,jf,jg,jh,ji,jj,jk,jl,PA],400,[⟨(.str 0),[PB],[(417,(.dict [yi,yj]))]⟩]⟩
theorem DB:aK (ai (dz P) 48) (bx P) rb=true:=by nofun
noncomputable def rd:Sm:=⟨[.ref 392,.ref 87,.ref 137],[dN,dA,dO,gR,gF,gS,gP,gE,gQ,je,jf,jg,jh,ji,jj,jk,jl,PA],400,[⟨(.str 0),[PB],[BG]⟩]⟩
theorem DC:aK (ai (dz P) 48) (bx P) rd=true:=by nofun
noncomputable def rf:Sm:=⟨[.ref 392,.ref 87,.ref 109],[f9,fw,gA,jX,jE,jY,je,jf,jg,jh,ji,jj,jk,jl,PC],400,[⟨(.str 0),[PD],[(417,(.dict [Iv,Iw]))]⟩]⟩
theorem DD:aK (ai (dz P) 48) (bx P) rf=true:=by nofun
noncomputable def rg:Sm:=⟨[.ref 392,.ref 87,.ref 137],[f9,fw,gA,jX,jE,jY,gP,gE,gQ,je,jf,jg,jh,ji,jj,jk,jl,PC],400,[⟨(.str 0),[PD],[BG]⟩]⟩
theorem DE:aK (ai (dz P) 48) (bx P) rg=true:=by nofun
noncomputable def rh:Sm:=⟨[.ref 392,.ref 87,.ref 113],[f9,fw,gA,kU,kH,kW,je,jf,jg,jh,ji,jj,jk,jl,PE],400,[⟨(.str 0),[PF],[(417,(.dict [GJ,GK]))]⟩]⟩
theorem DF:aK (ai (dz P) 48) (bx P) rh=true:=by nofun
noncomputable def ri:Sm:=⟨[.ref 392,.ref 87,.ref 137],[f9,fw,gA,kU,kH,kW,gP,gE,gQ,je,jf,jg,jh,ji,jj,jk,jl,PE],400,[⟨(.str 0),[PF],[BG]⟩]⟩
theorem DG:aK (ai (dz P) 48) (bx P) ri=true:=by nofun
noncomputable def rj:Sm:=⟨[.ref 392,.ref 87,.ref 117],[f9,fw,gA,dr,dd,du,je,jf,jg,jh,ji,jj,jk,jl,PH],400,[⟨(.str 0),[BH],[PI]⟩]⟩
theorem DH:aK (ai (dz P) 48) (bx P) rj=true:=by nofun
noncomputable def rk:Sm:=⟨[.ref 392,.ref 87,.ref 137],[f9,fw,gA,dr,dd,du,gP,gE,gQ,je,jf,jg,jh,ji,jj,jk,jl,PH],400,[⟨(.str 0),[BH],[BG]⟩]⟩
theorem DI:aK (ai (dz P) 48) (bx P) rk=true:=by nofun
noncomputable def wi:Sm:=⟨[.ref 392,.ref 85,.ref 119],[dN,dA,dO,dY,f9,fw,i6,gA,jX,kU,dr,jE,kH,dd,jY,kW,du,PJ],400,[⟨(.str 0),[PK,PL,PM,BH],[PN,(415,(.dict [Iv,Iw])),(416,(.dict [GJ,GK])),PI]⟩]⟩
theorem HK:aK (ai (dz P) 48) (bx P) wi=true:=by nofun
noncomputable def wj:Sm:=⟨[.ref 392,.ref 85,.ref 147],[dN,dA,dO,dY,gX,f9,fw,i6,gA,jX,kU,dr,jE,kH,dd,jY,kW,du,fL,ew,fM,fN,gP,kX,kY,gE,jZ,ja,gQ,kZ,ke,PJ],400,[⟨(.str 0),[PK,PL,PM,BH],[PN,(415,(.dict [NS,NT])),(416,(.dict [RW,RX])),(417,(.dict [yg,yh]))]⟩]⟩
theorem HL:aK (ai (dz P) 48) (bx P) wj=true:=by nofun
noncomputable def rl:Sm:=⟨[.ref 392,.ref 83,.ref 126],[cC,b6,cD,dN,dA,dO,gR,f9,gF,fw,gS,i6,gA,jX,kU,dr,jE,kH,dd,jY,kW,du,u5,u6,u9,vA,vB,vC,vD,vE,vF,PO],400,[⟨(.str 0),[PQ,PR,PS,PU,PV,PW],[(433,(.dict [GL,(112,.ref 124),(114,.ref 119)])),(434,(.dict [yi,yj])),(415,(.list [.ref 102])),(435,(.dict [Iv,Iw])),(436,(.dict [GJ,GK])),(437,(.dict [NQ,NR]))]⟩]⟩
theorem DJ:aK (ai (dz P) 48) (bx P) rl=true:=by nofun
noncomputable def rn:Sm:=⟨[.ref 392,.ref 83,.ref 189],[cC,b6,cD,dN,dA,dO,gR,f9,gF,fw,gS,i6,gA,jX,kU,dr,jE,kH,dd,jY,kW,du,fi,fO,fj,yk,jb,uy,i7,yl,jc,jd,ym,yn,yo,uz,u0,u4,yp,yq,yr,u5,u6,u9,vA,vB,vC,vD,vE,vF,PO],400,[⟨(.str 0),[PQ,PR,PS,PU,PV,PW],[(433,(.dict [GR,(112,.ref 124),(114,.ref 119)])),PX,PY,PZ,Pa,Pb]⟩]⟩
theorem DK:aK (ai (dz P) 48) (bx P) rn=true:=by nofun
noncomputable def ro:Sm:=⟨[.ref 392,.ref 83,.ref 154],[cC,b6,cD,eT,d9,eU,n8,fL,mT,ew,n9,fM,fN,gP,kX,kY,gE,jZ,ja,gQ,kZ,ke,u5,u6,u9,vA,vB,vC,vD,vE,vF,Pc],400,[⟨(.str 0),[Pd,Pe,Pf,Ph,Pj,Pk],[(433,(.dict [GN,(112,.ref 152),(114,.ref 147)])),(434,(.dict [GO,GP])),(415,(.list [.ref 130])),(435,(.dict [NS,NT])),(436,(.dict [RW,RX])),(437,(.dict [yg,yh]))]⟩]⟩
theorem DL:aK (ai (dz P) 48) (bx P) ro=true:=by nofun
noncomputable def rp:Sm:=⟨[.ref 392,.ref 83,.ref 189],[cC,b6,cD,eT,d9,eU,n8,fL,mT,ew,n9,fM,fN,gP,kX,kY,gE,jZ,ja,gQ,kZ,ke,fi,fO,fj,yk,jb,uy,i7,yl,jc,jd,ym,yn,yo,uz,u0,u4,yp,yq,yr,u5,u6,u9,vA,vB,vC,vD,vE,vF,Pc],400,[⟨(.str 0),[Pd,Pe,Pf,Ph,Pj,Pk],[(433,(.dict [GR,(112,.ref 152),(114,.ref 147)])),PX,PY,PZ,Pa,Pb]⟩]⟩
theorem DM:aK (ai (dz P) 48) (bx P) rp=true:=by nofun
noncomputable def wm:Sm:=⟨[.ref 392,.ref 81,.ref 157],[cj,cU,cn,cC,b6,cO,cD,dN,eT,dA,d9,dO,eU,gR,f9,n8,fL,gF,fw,mT,ew,gS,i6,gA,n9,fM,fN,jX,kU,dr,gP,kX,kY,jE,kH,dd,gE,jZ,ja,jY,kW,du,gQ,kZ,ke,Pm],400,[⟨(.str 0),[Pn,Po,Pp,Pq,Pr,Pt,Pu,Pw,Px,Py,Pz,P0,P1],[P2,(444,(.dict [GL,(112,.ref 124),(114,.ref 119)])),(445,(.dict [GN,(112,.ref 152),(114,.ref 147)])),(446,(.dict [yi,yj])),(412,(.list [.ref 102])),(447,(.dict [GO,GP])),(431,(.list [.ref 130])),(448,(.dict [Iv,Iw])),(449,(.dict [GJ,GK])),(450,(.dict [NQ,NR])),(451,(.dict [NS,NT])),(452,(.dict [RW,RX])),(453,(.dict [yg,yh]))]⟩]⟩
theorem HM:aK (ai (dz P) 48) (bx P) wm=true:=by nofun
noncomputable def wo:Sm:=⟨[.ref 392,.ref 81,.ref 220],[cj,cU,cn,bV,cC,b6,cO,cD,dN,eT,dA,d9,dO,eU,gR,f9,n8,fL,gF,fw,mT,ew,gS,i6,gA,n9,fM,fN,jX,kU,dr,gP,kX,kY,jE,kH,dd,gE,jZ,ja,jY,kW,du,gQ,kZ,ke,cZ,cT,cf,cg,fi,gU,fO,gG,fj,gV,yk,jb,GU,mU,uy,i7,Cb,kf,yl,jc,jd,GV,mV,mW,ym,yn,yo,GW,GX,GY,uz,u0,u4,Cc,Cd,Ce,yp,yq,yr,GZ,Ga,Gb,Pm],400,[⟨(.str 0),[Pn,Po,Pp,Pq,Pr,Pt,Pu,Pw,Px,Py,Pz,P0,P1],[P2,(444,(.dict [GR,(112,.ref 124),(114,.ref 119)])),(445,(.dict [RY,(112,.ref 152),(114,.ref 147)])),(446,(.dict [Jw,Jx])),(412,(.list [.ref 165])),(447,(.dict [RZ,Ra])),(431,(.list [.ref 193])),(448,(.dict [Jy,Jz])),(449,(.dict [J0,J9])),(450,(.dict [KA,KC])),(451,(.dict [Rb,Rc])),(452,(.dict [Rd,Rf])),(453,(.dict [Rg,Rh]))]⟩]⟩
theorem HN:aK (ai (dz P) 48) (bx P) wo=true:=by nofun
noncomputable def rq:Sm:=⟨[.ref 392,.none,.ref 300],[f9,fw,i6,gA,jX,kU,dr,jE,kH,dd,jY,kW,du,dY,P4,P6,BI,BJ,BM,P7,BN,BO,BP,BQ,BS,BU,BV],400,[⟨(.str 0),[P8,P9],[BW,BX]⟩]⟩
theorem DN:aK (ai (dz P) 48) (bx P) rq=true:=by nofun
noncomputable def rr:Sm:=⟨[.ref 392,.none,.ref 300],[f9,fw,i6,gA,jX,kU,dr,jE,kH,dd,jY,kW,du,dY,P4,P6,BI,BJ,BM,QA,BN,BO,BP,BQ,BS,BU,BV],400,[⟨(.str 0),[P8,P9],[BW,BX]⟩]⟩
theorem DO:aK (ai (dz P) 48) (bx P) rr=true:=by nofun
noncomputable def rt:Sm:=⟨[.ref 392,.none,.ref 300],[f9,fw,i6,gA,jX,kU,dr,jE,kH,dd,jY,kW,du,dY,QB,QC,BI,BJ,BM,P7,BN,BO,BP,BQ,BS,BU,BV],400,[⟨(.str 0),[QD,QE],[BW,BX]⟩]⟩
theorem DP:aK (ai (dz P) 48) (bx P) rt=true:=by nofun
noncomputable def ru:Sm:=⟨[.ref 392,.none,.ref 300],[f9,fw,i6,gA,jX,kU,dr,jE,kH,dd,jY,kW,du,dY,QB,QC,BI,BJ,BM,QA,BN,BO,BP,BQ,BS,BU,BV],400,[⟨(.str 0),[QD,QE],[BW,BX]⟩]⟩
theorem DQ:aK (ai (dz P) 48) (bx P) ru=true:=by nofun
noncomputable def zd:List (Nat×(Nat×Sm)):=[(123362601424247941478,(49,we)),(138350580984136952166,(49,wg)),(139503502488743799142,(49,wh)),(1209054946823576456882534,(49,rb)),(2417980766438205631588710,(49,rd)),(30223146643287235809866857,(49,rf)),(31432072462901864984573033,(49,rg)),(30223147796208740416713833,(49,rh)),(31432073615823369591420009,(49,ri)),(30223148949130245023560809,(49,rj)),(31432074768744874198266985,(49,rk)),(1209057252666585670576486,(49,wi)),(2417983072281214845282662,(49,wj)),(20551740086370202412217449,(49,rl)),(21760665905984831586923625,(49,rn)),(20551741239291707019064425,(49,ro)),(21760667058906336193770601,(49,rp)),(1208925819614630993749347,(49,wm)),(2417851639229260168455523,(49,wo)),(2417852792151198415809651,(49,rq)),(3626778611765827590515827,(49,rr)),(2417853945072703022656627,(49,rt)),(3626779764687332197362803,(49,ru))]
theorem rx {P:Params} {mg mb:Str→Option Value} {h:Heap} (PG:aY (cG P) (KK P) mg mb h):AllK P h 731 zd:=⟨aA (a8 PG) rfl (b0 P) (HH P),aA (a8 PG) rfl (b0 P) (HI P),aA (a8 PG) rfl (b0 P) (HJ P),aA (a8 PG) rfl (b0 P) (DB P),aA (a8 PG) rfl (b0 P) (DC P),aA (a8 PG) rfl (b0 P) (DD P),aA (a8 PG) rfl (b0 P) (DE P),aA (a8 PG) rfl (b0 P) (DF P),aA (a8 PG) rfl (b0 P) (DG P),aA (a8 PG) rfl (b0 P) (DH P),aA (a8 PG) rfl (b0 P) (DI P),aA (a8 PG) rfl (b0 P) (HK P),aA (a8 PG) rfl (b0 P) (HL P),aA (a8 PG) rfl (b0 P) (DJ P),aA (a8 PG) rfl (b0 P) (DK P),aA (a8 PG) rfl (b0 P) (DL P),aA (a8 PG) rfl (b0 P) (DM P),aA (a8 PG) rfl (b0 P) (HM P),aA (a8 PG) rfl (b0 P) (HN P),aA (a8 PG) rfl (b0 P) (DN P),aA (a8 PG) rfl (b0 P) (DO P),aA (a8 PG) rfl (b0 P) (DP P),aA (a8 PG) rfl (b0 P) (DQ P),trivial⟩
def Xq:Pg:=dK (dz P) 731 (Ca Xe zd)
theorem KP {P:Params} {mg mb:Str→Option Value} {h:Heap} (PG:aY (cG P) (KK P) mg mb h):aY (Xq P) (KK P) mg mb h:=bC (a8 PG) (b0 P).kp (mw (rx PG))
def bH (l:List (Nat×SV)) (L:List (Nat×SO)) (nx:Nat):SS:=⟨l,qO L ⟨.e⟩,nx⟩
structure dQ (L:List (Nat×SO)) (nx:Nat):Prop where
 lt:∀ p∈L,p.1<nx
 nx:nx≤1024
theorem dQ.lt' {L:List (Nat×SO)} {nx:Nat} (h:dQ L nx):∀ p∈L,p.1<1024:=λp hp=>Nat.lt_of_lt_of_le (h.lt p hp) h.nx
theorem di {l:List (Nat×SV)} {L:List (Nat×SO)} {nx:Nat} (h:dQ L nx) {k:Nat} {so:SO} (e:(bH l L nx).hp.get k=some so):(k,so)∈L:=aZ (A9 h.lt' e)
theorem c7 {l:List (Nat×SV)} {L:List (Nat×SO)} {nx:Nat} (h:dQ L nx) {k:Nat}:(bH l L nx).hp.get k=lk L k:=by
 show (qO L ⟨.e⟩).get k=_
 rw [nz h.lt']
 cases q:lk L k with
 | some so=>rfl
 | none =>
  show (⟨.e⟩:Hp).get k=none
  rw [Hp.get_eq,Tr.uE]
  cases Nat.blt k 1024<;>rfl
def tF (mt:List (Nat×IT)) (i:Nat):Option IT:=aL (Nat.blt i 100) (Option.rec (motive:=λ_=>Option IT) (some (.v i)) (λu=>some u) (lk mt i)) none
def rF (mv:List (Nat×Nat)) (k:Nat):Option Nat:=Option.rec (motive:=λ_=>Option Nat) (some k) (λm=>some m) (lk mv k)
def kg (ν:Nat→Int) (mt:List (Nat×IT)):Nat→Int:=λi=>if i<100 then (match lk mt i with | some u=>u.ev ν | none=>ν i) else ν i
def i8 (ρ:Nm) (mv:List (Nat×Nat)) (nx:Nat):Nm:=λk=>if k<nx then (rF mv k).bind ρ else none
theorem QG {ν:Nat→Int} {mt:List (Nat×IT)} {i:Nat} {u:IT} (h:tF mt i=some u):kg ν mt i=u.ev ν:=by
 unfold tF at h
 unfold kg
 cases q:Nat.blt i 100 with
 | false=>rw [q] at h; cases h
 | true =>
  rw [q] at h
  rw [if_pos (aC.mp q)]
  have h:(Option.rec (motive:=λ_=>Option IT) (some (.v i)) (λu=>some u) (lk mt i):Option IT)=some u:=h
  cases q2:lk mt i with
  | none=>rw [q2] at h; cases h; rfl
  | some w=>rw [q2] at h; cases h; rfl
theorem Xr {ν:Nat→Int} {mt:List (Nat×IT)} (hν:∀ n,n<100→-9≤ν n∧ν n≤9) (hb:af (λq=>fh q.2) mt=true):∀ n,n<100→-9≤kg ν mt n∧kg ν mt n≤9:=λn hn=>by
 unfold kg
 rw [if_pos hn]
 split
 ·rename_i u h
  exact qy hν (aE hb _ (aZ h))
 ·exact hν n hn
theorem Xs {ν:Nat→Int} {mt:List (Nat×IT)} (h:ν 201=ν 200+1):kg ν mt 201=kg ν mt 200+1:=by
 unfold kg
 rw [if_neg (by decide),if_neg (by decide)]
 exact h
theorem m3 {mv:List (Nat×Nat)} {k:Nat} (h:lk mv k=none):rF mv k=some k:=by unfold rF; rw [h]
def aAh (r:Nat→Option Nat) (t:Nat→Option IT) (loc:List (Nat×SV)) (l:List (Nat×SV)):Bool:=af (λp=>Option.rec (motive:=λ_=>Bool) false (λy=>Jm r t p.2 y) (lk loc p.1)) l
def Xu (r:Nat→Option Nat) (t:Nat→Option IT) (H:Hp) (p:Nat×SO):Bool:=Option.rec (motive:=λ_=>Bool) false (λm=>Option.rec (motive:=λ_=>Bool) false (λso=>Xa r t p.2 so) (H.get m)) (r p.1)
def eA (mv:List (Nat×Nat)) (mt:List (Nat×IT)) (l:List (Nat×SV)) (T:List (Nat×SO)) (σ:SS):Bool :=
 aL (aAh (rF mv) (tF mt) σ.loc l) (aL (af (Xu (rF mv) (tF mt) σ.hp) T) (aL (n7 (rF mv) T 0) (af (λq=>fh q.2) mt) false) false) false
section
variable {P:Params} {ν:Nat→Int} {hG:Heap} {fz:Addr→Obj→Prop} {L:Addr} {ρ:Nm} {σ:SS} {s:Shared} {mv:List (Nat×Nat)} {mt:List (Nat×IT)}
structure Met (ν:Nat→Int) (ρ:Nm) (mv:List (Nat×Nat)) (mt:List (Nat×IT)) (l:List (Nat×SV)) (T:List (Nat×SO)) (σ:SS):Prop where
 loc:∀ p∈l,∃ y,lk σ.loc p.1=some y∧dq (rF mv) (tF mt) p.2=some y
 obj:∀ p∈T,∃ m so,rF mv p.1=some m∧σ.hp.get m=some so∧ib (rF mv) (tF mt) p.2=some so
 inj:∀ p∈T,∀ q∈T,ag p.2=false→ag q.2=false→∀ m,rF mv p.1=some m→rF mv q.1=some m→p.1=q.1
 b:af (λq=>fh q.2) mt=true
theorem cN {l:List (Nat×SV)} {T:List (Nat×SO)} (h:eA mv mt l T σ=true):Met ν ρ mv mt l T σ:=by
 unfold eA at h
 obtain ⟨h1,h⟩:=aH h
 obtain ⟨h2,h⟩:=aH h
 obtain ⟨h3,h4⟩:=aH h
 refine ⟨λp hp=>?_,λp hp=>?_,λp hp q hq k1 k2 m e1 e2=>A8 k1 k2 e1 e2 h3 hp hq,h4⟩
 ·have:=aE h1 p hp
  cases q:lk σ.loc p.1 with
  | none=>rw [q] at this; cases this
  | some y=>rw [q] at this; exact ⟨y,rfl,kT this⟩
 ·have:=aE h2 p hp
  unfold Xu at this
  cases q:rF mv p.1 with
  | none=>rw [q] at this; cases this
  | some m =>
   rw [q] at this
   dsimp only at this
   cases q2:σ.hp.get m with
   | none=>rw [q2] at this; cases this
   | some so=>rw [q2] at this; exact ⟨m,so,rfl,q2,sx this⟩
end
section
variable {P:Params} {ν:Nat→Int} {hG:Heap} {fz:Addr→Obj→Prop} {L:Addr} {ρ:Nm} {σ τ:SS} {s s':Shared}
noncomputable abbrev Ei:Nat→Option IT:=λi=>some (.v i)
noncomputable def NotIn (f:Nat→Nat) (B:List (Nat×SO)):Nat→Prop:=λm=>∀ p∈B,f p.1≠m
noncomputable def cI (ρ:Nm) (f:Nat→Nat) (nx:Nat):Nm:=λk=>if k<nx then some ((ρ (f k)).getD 0) else none
theorem SR.part (S:SR P ν hG fz L ρ σ s) (f:Nat→Nat) {l:List (Nat×SV)} {B:List (Nat×SO)} {nx:Nat} (hk:dQ B nx)
 (hB:∀ p∈B,∃ so,σ.hp.get (f p.1)=some so∧(ag p.2=false→ag so=false)∧(∀ o,OR P ν ρ so o→OR P ν (cI ρ f nx) p.2 o))
 (hi:∀ p∈B,∀ q∈B,f p.1=f q.1→p.1=q.1) (hl:∀ p∈l,∃ y,lk σ.loc p.1=some y∧∀ v,VR ν ρ y v→VR ν (cI ρ f nx) p.2 v) :
 SR P ν hG (λb o=>fz b o∨a5 ρ σ s (NotIn f B) b o) L (cI ρ f nx) (bH l B nx) s:=by
 refine S.focus (N:=NotIn f B) (λk=>some (f k)) (λk so hk'=>?_) (λk k' m so1 so2 q1 q2 _ _ w w'=>?_) (λx sv e=>?_) (λk a h=>?_)
 ·have hm:=di hk hk'
  obtain ⟨so',h1,hs,h2⟩:=hB _ hm
  refine ⟨f k,so',rfl,λw=>w _ hm rfl,h1,hs,λa ha=>?_,λa o _ _ w=>h2 o w⟩
  unfold cI
  rw [if_pos (hk.lt _ hm),ha]
  rfl
 ·exact hi _ (di hk q1) _ (di hk q2) (aD (w.trans w'.symm))
 ·exact hl _ (aZ e)
 ·unfold cI at h
  by_cases w:k<nx
  ·exact w
  ·rw [if_neg w] at h; cases h
theorem Be {f:Nat→Nat} {B':List (Nat×SO)} (hi:∀ p∈B',∀ q∈B',f p.1=f q.1→p.1=q.1) {p:Nat×SO} (hp:p∈B'):∃ q,B'.find? (λq=>Nat.beq (f q.1) (f p.1))=some q∧q.1=p.1:=by
 cases h:B'.find? (λq=>Nat.beq (f q.1) (f p.1)) with
 | none=>exact absurd (Nat.beq_refl _) (List.find?_eq_none.mp h p hp)
 | some q=>exact ⟨q,rfl,hi q (List.mem_of_find?_eq_some h) p hp (ar (show Nat.beq (f q.1) (f p.1)=true from by have:=List.find?_some h; exact this))⟩
theorem wq {f:Nat→Nat} {B':List (Nat×SO)} {m:Nat} (h:NotIn f B' m):B'.find? (λq=>Nat.beq (f q.1) m)=none:=by
 cases q:B'.find? (λq=>Nat.beq (f q.1) m) with
 | none=>rfl
 | some p=>exact absurd (ar (by have:=List.find?_some q; exact this)) (h p (List.mem_of_find?_eq_some q))
def eD (ρ ρ1:Nm) (f:Nat→Nat) (mv:List (Nat×Nat)) (B':List (Nat×SO)) (nx:Nat):Nm:=λm=>iX (B'.find? (λp=>Nat.beq (f p.1) m)) (λp=>(rF mv p.1).bind ρ1) (if m<nx then some ((ρ m).getD 0) else none)
theorem m4 {ρ ρ1:Nm} {f:Nat→Nat} {mv:List (Nat×Nat)} {B':List (Nat×SO)} {nx:Nat} (hi:∀ p∈B',∀ q∈B',f p.1=f q.1→p.1=q.1) {p:Nat×SO} (hp:p∈B'):eD ρ ρ1 f mv B' nx (f p.1)=(rF mv p.1).bind ρ1:=by
 obtain ⟨q,h1,h2⟩:=Be hi hp
 unfold eD
 rw [h1,← h2]; rfl
theorem jn {ρ ρ1:Nm} {f:Nat→Nat} {mv:List (Nat×Nat)} {B':List (Nat×SO)} {nx m:Nat} (h:NotIn f B' m) (hm:m<nx):eD ρ ρ1 f mv B' nx m=some ((ρ m).getD 0):=by
 unfold eD
 rw [wq h]
 exact if_pos hm
theorem Bf {ρ ρ1:Nm} {f:Nat→Nat} {mv:List (Nat×Nat)} {B':List (Nat×SO)} {nx m:Nat} {a:Addr} (hf:∀ p∈B',f p.1<nx):eD ρ ρ1 f mv B' nx m=some a→m<nx:=by
 refine eM (p:=λo=>o=some a→m<nx) (λq h' _=>ar (show Nat.beq (f q.1) m=true from by have:=List.find?_some h'; exact this)▸hf q (List.mem_of_find?_eq_some h')) λh=>?_
 by_cases w:m<nx
 ·exact w
 ·rw [if_neg w] at h; exact nS h
def gW (f:Nat→Nat) (mv:List (Nat×Nat)) (B':List (Nat×SO)) (m:Nat):Sum Nat Nat:=iX (B'.find? (λp=>Nat.beq (f p.1) m)) (λp=>.inl ((rF mv p.1).getD 0)) (.inr m)
theorem wt {f:Nat→Nat} {mv:List (Nat×Nat)} {B':List (Nat×SO)} (hi:∀ p∈B',∀ q∈B',f p.1=f q.1→p.1=q.1) {p:Nat×SO} (hp:p∈B') {k:Nat} (e:rF mv p.1=some k):gW f mv B' (f p.1)=.inl k:=by
 obtain ⟨q,h1,h2⟩:=Be hi hp
 unfold gW
 rw [h1]
 show Sum.inl ((rF mv q.1).getD 0)=_
 rw [h2,e]; rfl
theorem pJ {f:Nat→Nat} {mv:List (Nat×Nat)} {B':List (Nat×SO)} {m:Nat} (h:NotIn f B' m):gW f mv B' m=.inr m:=by
 unfold gW
 rw [wq h]; rfl
theorem SR.whole {ν₁:Nat→Int} {mv:List (Nat×Nat)} {mt:List (Nat×IT)} {f:Nat→Nat} {l':List (Nat×SV)} {B B':List (Nat×SO)} {ρ1:Nm} {σ1:SS} {nx:Nat} (hnx:σ.nx≤nx) (S:SR P ν hG fz L ρ σ s)
 (S1:SR P ν₁ hG (λb o=>fz b o∨a5 ρ σ s (NotIn f B) b o) L ρ1 σ1 s') (M:Met ν₁ ρ1 mv mt l' B' σ1) (hi:∀ p∈B',∀ q∈B',f p.1=f q.1→p.1=q.1)
 (hτ:∀ m so,τ.hp.get m=some so→(∃ p∈B',f p.1=m∧(ag so=false→ag p.2=false)∧∀ o,OR P (kg ν₁ mt) (λk=>(rF mv k).bind ρ1) p.2 o→OR P (kg ν₁ mt) (eD ρ ρ1 f mv B' nx) so o) ∨
  (NotIn f B m∧NotIn f B' m∧σ.hp.get m=some so∧∀ o,OR P ν ρ so o→OR P (kg ν₁ mt) (eD ρ ρ1 f mv B' nx) so o))
 (hl:∀ x sv,lk τ.loc x=some sv→∃ sv',lk l' x=some sv'∧∀ v,VR (kg ν₁ mt) (λk=>(rF mv k).bind ρ1) sv' v→VR (kg ν₁ mt) (eD ρ ρ1 f mv B' nx) sv v)
 (hd:∀ k a,eD ρ ρ1 f mv B' nx k=some a→k<τ.nx):SR P (kg ν₁ mt) hG fz L (eD ρ ρ1 f mv B' nx) τ s':=by
 have W:NN ν₁ (kg ν₁ mt) ρ1 (λk=>(rF mv k).bind ρ1) (rF mv) (tF mt):=⟨λk m h a ha=>by rw [h]; exact ha,λi u h=>QG h⟩
 refine SR.join (N:=NotIn f B) (P:=P) S S1 (gW f mv B') (λm so hm=>?_) (λm m' so1 so2 q1 q2 k1 k2 w=>?_) ?_ hd
 ·rcases hτ m so hm with ⟨p,hp,e0,hs,h2⟩ | ⟨h1,h2,h3,h4⟩
  ·obtain ⟨m',so',e1,e2,e3⟩:=M.obj p hp
   rw [← e0]
   refine .inl ⟨m',so',wt hi hp e1,e2,λq=>by rw [cQ e3]; exact hs q,λa ha=>?_,λo ho=>h2 o (jV W e3 ho)⟩
   rw [m4 hi hp,e1]
   exact ha
  ·exact .inr ⟨m,so,pJ h2,h1,h3,id,λa ha=>by rw [jn h2 (Nat.lt_of_lt_of_le (S.dom _ _ ha) hnx),ha]; rfl,h4⟩
 ·rcases hτ m so1 q1 with ⟨p,hp,e0,uA,_⟩ | ⟨_,h2,_⟩<;>rcases hτ m' so2 q2 with ⟨p',hp',e0',hs2,_⟩ | ⟨_,h2',_⟩
  ·obtain ⟨a,_,e1,_⟩:=M.obj p hp
   obtain ⟨a',_,e1',_⟩:=M.obj p' hp'
   rw [← e0,← e0',wt hi hp e1,wt hi hp' e1'] at w
   rw [← e0,← e0',M.inj p hp p' hp' (uA k1) (hs2 k2) a e1 (Sum.inl.inj w▸e1')]
  ·obtain ⟨a,_,e1,_⟩:=M.obj p hp
   rw [← e0,wt hi hp e1,pJ h2'] at w; exact nomatch w
  ·obtain ⟨a,_,e1,_⟩:=M.obj p' hp'
   rw [← e0',wt hi hp' e1,pJ h2] at w; exact nomatch w
  ·rw [pJ h2,pJ h2'] at w
   exact Sum.inr.inj w
 ·obtain ⟨m,hm,hv⟩:=S1.loc
  refine ⟨m,hm,λx sv e=>?_⟩
  obtain ⟨sv',h1,h2⟩:=hl x sv e
  obtain ⟨y,h3,h4⟩:=M.loc _ (aZ h1)
  obtain ⟨v,h5,h6⟩:=hv x y h3
  exact ⟨v,h5,h2 v (fJ W h4 h6)⟩
end
theorem m6 {ν:Nat→Int}:kg ν []=ν:=by
 funext i
 unfold kg
 split<;>rfl
noncomputable abbrev Cx.nu (c:Cx) (ν:Nat→Int) (hb:∀ n,n<100→-9≤ν n∧ν n≤9) (hs:ν 201=ν 200+1):Cx:={ c with ν:=ν,νb:=hb,νs:=hs }
structure eE (ν:Nat→Int):Prop where
 b:∀ n,n<100→-9≤ν n∧ν n≤9
 s:ν 201=ν 200+1
theorem eE.mt {ν:Nat→Int} (h:eE ν) {mt:List (Nat×IT)} (hb:af (λq=>fh q.2) mt=true):eE (kg ν mt):=⟨Xr h.b hb,Xs h.s⟩
theorem SR.tC {P:Params} {ν ν':Nat→Int} {hG:Heap} {fz:Addr→Obj→Prop} {L C:Addr} {ρ ρ':Nm} {σ σ':SS} {s s':Shared} {oL:Obj} (S':SR P ν' hG (dX fz L (iE oL)) C ρ' σ' s') (S:SR P ν hG fz L ρ σ s) (hL:s.heap.get? L=some oL) {l:List (Nat×SV)}
 (hl:∀ x sv,lk l x=some sv→∃ sv',lk σ.loc x=some sv'∧∀ v,VR ν ρ sv' v→VR ν' ρ' sv v):SR P ν' hG fz L ρ' ⟨l,σ'.hp,σ'.nx⟩ s':=by
 obtain ⟨oL',hL',hLd,_⟩:=S'.fzk L (iE oL) (.inr ⟨rfl,rfl⟩)
 refine ⟨λb o e=>S'.fzk b o (.inl e),S.fc,S'.gk,S.gd,?_,S.Lf,λn so e=>?_,S'.inj,S'.dom⟩
 ·obtain ⟨m,hm,hv⟩:=S.loc
  refine ⟨m,Ns.i3 hm hL hL' hLd,λy sv e=>?_⟩
  obtain ⟨sv',h1,h2⟩:=hl y sv e
  obtain ⟨v,h3,h4⟩:=hv y sv' h1
  exact ⟨v,h3,h2 v h4⟩
 ·obtain ⟨a,o,h1,h2,h3,h4,h5⟩:=S'.hp n so e
  refine ⟨a,o,h1,h2,h3,λq=>?_,λhs o' q=>h5 hs o' (.inl q)⟩
  cases hs:ag so with
  | false=>exact h5 hs (iE oL) (.inr ⟨q,rfl⟩)
  | true =>
   subst q
   rw [hL'] at h2
   cases h2
   obtain ⟨m,⟨o',es,ep,k1,k2,_⟩,_⟩:=S.loc
   rw [hL] at k1
   cases k1
   cases so with
   | tup xs=>obtain ⟨vs,n,e,_⟩:=h3; have z:=hLd.trans k2; rw [e] at z; cases z
   | _=>cases hs
noncomputable abbrev Cx.bo (c:Cx) (env:Env) (oL:Obj) (C:Addr):Cx:={ c with A:=c.A.deeper env,fz:=Mine.dX c.fz c.L (iE oL),L:=C }
set_option backward.match.sparseCases true in
theorem ze {c:Cx} {mg mb:Str→Option Value} (PG:aY (cG c.w.params) (KK c.w.params) mg mb c.hG) (hdp:c.A.depth<recursionLimit) {f:Addr} {d:bf} (F:aq (KK c.w.params) f d) {xs:List SV} {vs:List Value} {ρ:Nm} {σ σ1:SS} {cs:List (Nat×Nat)} {s:Shared}
 (hv:bX c.ν ρ xs vs) (z0:Nat.beq xs.length d.params.length=true) (hpc:cJ (cS d.nm d.params xs []) d.cl { σ with loc:=a7 d.nm d.params xs [] } []=some (σ1,cs)) (S:c.SR ρ σ s) {Q E:Value→Shared→Prop}
 (hbody:∀ env ρ1 s1 oL C E',s.heap.get? c.L=some oL→(∀ n,Rm c (n+1)→Rm (c.bo env oL C) n)→aG (c.bo env oL C) ρ1 ⟨d.nm,cs⟩ env→Ext ρ ρ1→(c.bo env oL C).SR ρ1 σ1 s1→aT s s1 →
  wpAny c.M (c.A.deeper env) (execs d.body env) (λf s'=>Q (match f with | .ret v=>v | _=>.none) s') E' s1):wpAny c.M c.A (call (.ref f) vs) Q E s:=by
 refine wpAny_call ?_
 rw [← F.nm,← F.cl] at hpc
 have z:dy d xs=true:=by
  have h:=F.chk
  rw [Bool.and_eq_true,Bool.and_eq_true] at h
  unfold dy
  rw [z0,h.1.1,h.1.2,h.2]; rfl
 obtain ⟨oL,hL⟩:∃ o,s.heap.get? c.L=some o:=by obtain ⟨_,⟨o,_,_,h,_⟩,_⟩:=S.loc; exact ⟨o,h⟩
 have no:s.heap.get? s.heap.objs.size=none:=by
  cases w:s.heap.get? s.heap.objs.size with
  | none=>rfl
  | some o'=>exact absurd (bE w) (Nat.lt_irrefl _)
 refine ml (fz':=dX c.fz c.L (iE oL)) PG.G S.br hdp F hv z hpc (λa o w=>?_) (λm so a e1 e2=>?_) (λh' tk m hn hk hl=>SR.enter S hn hk no hl hL) (λenv' ρ1 s1 eF eo x1 S2 sm1 E'=>?_)
 ·rcases w with w | ⟨w,_⟩
  ·obtain ⟨o2,z⟩:=(S.fzk _ _ w).at
   exact bE z
  ·exact w▸bE hL
 ·obtain ⟨b,ob,g1,g2,_⟩:=S.hp m so e1
  rw [e2] at g1; cases g1
  exact bE g2
 ·rw [F.nm] at eo
  exact hbody env' ρ1 s1 oL s.heap.objs.size E' hL (λn r=>⟨r.stk.push (env:=env') rfl rfl (λ_ _ e=>.inl e) (S.FW hL) eo.kind eF,r.hh,by show c.A.depth+1+4 * n+44<_; have:=r.depth; omega,by show c.A.units+3+60 * n+660<_; have:=r.units; omega⟩) eo x1 S2 sm1
noncomputable def emp:Heap:={ objs:=#[] }
theorem wu (b:Addr):emp.get? b=none:=Heap.get?_none_of_le (Nat.zero_le _)
structure tD (as xs:List Addr) (h h':Heap):Prop where
 oth:∀ b o,h.get? b=some o→b∉as→b∉xs→h'.get? b=some o
 frm:∀ b o,h.get? b=some o→b∈as→b∉xs→∃ sl,h'.get? b=some { o with slots:=sl }
theorem tD.trans {as xs ys:List Addr} {h h1 h2:Heap} (a:tD as xs h h1) (b:tD [] ys h1 h2) (hy:∀ y∈ys,∀ o,h.get? y≠some o):tD as xs h h2 :=
 ⟨λc o e n1 n2=>b.oth c o (a.oth c o e n1 n2) (λq=>nomatch q) λq=>hy c q o e,λc o e n1 n2=>let ⟨sl,w⟩:=a.frm c o e n1 n2; ⟨sl,b.oth c _ w (λq=>nomatch q) λq=>hy c q o e⟩⟩
noncomputable def wx (h:Heap) (e:Addr) (D:Option Addr) (T:Option Addr) (fl:Value):Prop :=
 ∃ oe vs,h.get? e=some oe∧oe.cls=.ref 70∧oe.dict=D∧oe.data=.fields vs∧1<vs.size∧match T with
  | none=>vs[1]?=some .none
  | some T=>vs[1]?=some (.ref T)∧T≠e∧∃ oT ts,h.get? T=some oT∧oT.data=.fields ts∧ts[3]?=some fl
section
variable {M:Model} {A:Around} {E:Value→Shared→Prop} {s:Shared}
theorem HO {env:Env} {outer:List Env} {L e:Addr} {oe:Obj} {vs:Array Value} {head:Value} {hadNext:Bool} {Q:Unit→Shared→Prop}
 (hfr:A.frames=some (env::outer)) (hl:s.heap.FunFrames emp (env::outer)) (hf:env.frame=some L)
 (he:s.heap.get? e=some oe) (hc:oe.cls=.ref 70) (hd:oe.data=.fields vs) (hsz:1<vs.size)
 (h:∀ h' T',wx h' e oe.dict (some T') (rawInt L)→s.heap.get? T'=none→tD ((env::outer).filterMap (·.frame)) [e] s.heap h'→Q () { s with heap:=h' }) :
 wpAny M A (do let a ← frameOf env; let pl ← entryPlaceOf L hadNext; let b ← EntryCells.newEntry head a .none (rawInt L) .none pl; setField (.ref e) 1 b) Q E s:=by
 have hene:e∉(env::outer).filterMap (·.frame):=λhm=>by
  obtain ⟨_,o,ho,hnf⟩:=hl.mem hm
  rw [he] at ho; injection ho with ho; subst ho; exact hnf vs hd
 refine aF (wpAny_frameOf_fun hfr hl hf λh₁ hs₁=>?_)
 refine aF (wpAny_entryPlaceOf λpl hpl=>?_)
 unfold EntryCells.newEntry newFields
 refine aF (wpAny_newObj_type ?_ (hpl.sizeOk5 _ _ _ _ _))
 have he₁:h₁.get? e=some oe:=(hs₁.2.1 e hene).trans he
 have he₂:=cK (h:=h₁) { cls:=.type "traceback",dict:=none,data:=.fields ([head,.ref L,.none,rawInt L,.none]++(if pl.isEmpty then List.replicate 6 Value.none else pl)).toArray } he₁
 have hTe:h₁.objs.size≠e:=Nat.ne_of_gt (bE he₁)
 have hd₃:=Obj.data_mapFields hd (·.setIfInBounds 1 (Value.ref h₁.objs.size))
 have he₃:=Heap.get?_update_self (Obj.mapFields (·.setIfInBounds 1 (Value.ref h₁.objs.size))) he₂ (Obj.isFreed_of_fields hd₃)
 have hT₃:=(Heap.get?_update_other (h₁.push { cls:=.type "traceback",dict:=none,data:=.fields ([head,.ref L,.none,rawInt L,.none]++(if pl.isEmpty then List.replicate 6 Value.none else pl)).toArray })
  (Obj.mapFields (·.setIfInBounds 1 (Value.ref h₁.objs.size))) (Ne.symm hTe)).trans (Heap.get?_push_size h₁ rfl)
 refine wpAny_setField he₂ hd hsz (h _ h₁.objs.size ?_ ?_ ?_)
 ·refine ⟨_,_,he₃,(Obj.cls_mapFields _ _).trans hc,?_,hd₃,by simpa using hsz,by simp [hsz],hTe,_,_,hT₃,rfl,by first | (simp; done) | (rcases hpl with rfl | ⟨_,_,_,_,_,_,_,rfl⟩<;>simp)⟩
  obtain ⟨c,d,dt,sl⟩:=oe
  dsimp only at hd
  subst hd
  rfl
 ·rw [hs₁.1]
  exact Heap.get?_none_of_le (Nat.le_refl _)
 ·refine ⟨λb o hb n1 n2=>?_,λb o hb n1 n2=>?_⟩
  ·have n2:b≠e:=λq=>n2 (List.mem_singleton.mpr q)
   rw [Heap.get?_update_other _ _ (Ne.symm n2)]
   exact cK _ ((hs₁.2.1 b n1).trans hb)
  ·have n2:b≠e:=λq=>n2 (List.mem_singleton.mpr q)
   obtain ⟨sl,w⟩:=hs₁.2.2 b o hb
   refine ⟨sl,?_⟩
   rw [Heap.get?_update_other _ _ (Ne.symm n2)]
   exact cK _ w
theorem QH {env:Env} {outer:List Env} {L e:Addr} {D T:Option Addr} {Q:Unit→Shared→Prop}
 (hfr:A.frames=some (env::outer)) (hl:s.heap.FunFrames emp (env::outer)) (hf:env.frame=some L) (x:wx s.heap e D T .none)
 (h:∀ h' T',wx h' e D (some T') (rawInt L)→s.heap.get? T'=none→tD ((env::outer).filterMap (·.frame)) (e::T.toList) s.heap h'→Q () { s with heap:=h' }):wpAny M A (noteFrame (.ref e) env) Q E s:=by
 obtain ⟨oe,vs,he,hc,hD,hd,hsz,hT⟩:=x
 subst hD
 unfold noteFrame
 simp only [hf]
 cases T with
 | none =>
  refine aF (wpAny_field he hd hT ?_)
  rw [if_neg (by decide)]
  exact HO hfr hl hf he hc hd hsz h
 | some T =>
  obtain ⟨h1,hTe,oT,ts,hoT,hdT,h3⟩:=hT
  refine aF (wpAny_field he hd h1 ?_)
  rw [if_pos (show (Value.ref T != Value.none)=true from by simp)]
  refine aF (wpAny_field hoT hdT h3 ?_)
  rw [if_neg (show ¬ ((Value.none == rawInt L)=true) from by simp [rawInt])]
  refine aF (wpAny_setField hoT hdT (Array.getElem?_eq_some_iff.mp h3).1 ?_)
  have other:∀ b,b≠T→(s.heap.update T (Obj.mapFields (·.setIfInBounds 3 Value.none))).get? b=s.heap.get? b:=λb hb=>Heap.get?_update_other _ _ (Ne.symm hb)
  have noRecord:∀ b o,s.heap.get? b=some o→(∀ vs,o.data≠.fields vs)→b≠T:=λb o hb hnf q=>by
   rw [q,hoT] at hb; injection hb with hb; subst hb; exact hnf ts hdT
  refine HO hfr (hl.of_keeps λb o hb hnf=>⟨o,(other b (noRecord b o hb hnf)).trans hb,rfl⟩) hf ((other e (Ne.symm hTe)).trans he) hc hd hsz λh' T' y1 y2 y3=>?_
  have nT:T'≠T:=λq=>by
   subst q
   have:∃ o,(s.heap.update T' (Obj.mapFields (·.setIfInBounds 3 Value.none))).get? T'=some o:=⟨_,Heap.get?_update_self _ hoT (Obj.isFreed_of_fields (Obj.data_mapFields hdT _))⟩
   obtain ⟨o,w⟩:=this
   rw [w] at y2; cases y2
  refine h h' T' y1 ((other T' nT).symm.trans y2) ⟨λb o hb n1 n2=>?_,λb o hb n1 n2=>?_⟩
  ·have z1:b≠e:=λq=>n2 (q▸List.mem_cons_self)
   have z2:b≠T:=λq=>n2 (q▸List.mem_cons_of_mem _ (List.mem_cons_self))
   exact y3.oth b o ((other b z2).trans hb) n1 λq=>z1 (aj q)
  ·have z1:b≠e:=λq=>n2 (q▸List.mem_cons_self)
   have z2:b≠T:=λq=>n2 (q▸List.mem_cons_of_mem _ (List.mem_cons_self))
   exact y3.frm b o ((other b z2).trans hb) n1 λq=>z1 (aj q)
theorem tG {e:Addr} {D:Option Addr} {T:Addr} {fl:Value} {Q:Unit→Shared→Prop} (x:wx s.heap e D (some T) fl)
 (h:∀ h',wx h' e D (some T) .none→tD [] [T] s.heap h'→Q () { s with heap:=h' }):wpAny M A (setFlight (.ref e) none) Q E s:=by
 obtain ⟨oe,vs,he,hc,hD,hd,hsz,h1,hTe,oT,ts,hT,hdT,h3⟩:=x
 have hsz3:3<ts.size:=(Array.getElem?_eq_some_iff.mp h3).1
 have other:∀ b,b≠T→(s.heap.update T (Obj.mapFields (·.setIfInBounds 3 ((none:Option Addr).elim Value.none λf=>rawInt f)))).get? b=s.heap.get? b :=
  λb hb=>Heap.get?_update_other _ _ (Ne.symm hb)
 unfold setFlight
 refine aF (wpAny_field he hd h1 ?_)
 rw [if_pos (show (Value.ref T != Value.none)=true from by simp)]
 refine wpAny_setField hT hdT hsz3 (h _ ?_ ⟨λb o hb _ n2=>(other b λq=>n2 (List.mem_singleton.mpr q)).trans hb,λb o hb n1=>nomatch n1⟩)
 exact ⟨oe,vs,(other e (Ne.symm hTe)).trans he,hc,hD,hd,hsz,h1,hTe,_,_,Heap.get?_update_self _ hT (Obj.isFreed_of_fields (Obj.data_mapFields hdT _)),Obj.data_mapFields hdT _,by simp [hsz3]⟩
theorem leaveX {env:Env} {outer:List Env} {L e:Addr} {D T:Option Addr} {Q:Unit→Shared→Prop}
 (hfr:A.frames=some (env::outer)) (hl:s.heap.FunFrames emp (env::outer)) (hf:env.frame=some L) (x:wx s.heap e D T .none)
 (h:∀ h' T',wx h' e D (some T') .none→s.heap.get? T'=none→tD ((env::outer).filterMap (·.frame)) (e::T.toList) s.heap h'→Q () { s with heap:=h' }):wpAny M A (leaving env (.ref e)) Q E s:=by
 unfold leaving
 refine aF (QH hfr hl hf x λh1 T' y1 y2 y3=>?_)
 refine tG y1 λh2 z1 z2=>?_
 exact h h2 T' z1 y2 (y3.trans z2 λy hy o e=>by rw [aj hy,y2] at e; cases e)
end
noncomputable def cu (c:Cx) (ρ:Nm) (σ:SS) (b:Addr):Prop:=b≠c.L∧(∀ n so,σ.hp.get n=some so→ρ n≠some b)∧∀ o,¬ c.fz b o
theorem SR.zf {c:Cx} {ρ:Nm} {σ:SS} {s:Shared} {as xs:List Addr} {h':Heap} {t:Nat} (S:c.SR ρ σ s) (stk:∀ b∈as,b=c.L∨((∃ o,c.fz b o∧d7 o)∧c.hG.get? b=none)) (x:tD as xs s.heap h') (fr:∀ b∈xs,cu c ρ σ b) :
 c.SR ρ σ { s with heap:=h',toks:=t }:=by
 refine ⟨λb o e=>?_,S.fc,λb o e=>?_,S.gd,?_,S.Lf,λn so e=>?_,S.inj,S.dom⟩
 ·obtain ⟨o',k1,k2,k3⟩:=S.fzk b o e
  have nx:b∉xs:=λq=>(fr b q).2.2 o e
  by_cases w:b∈as
  ·obtain ⟨sl,w1⟩:=x.frm b o' k1 w nx
   refine ⟨_,w1,k2,λnm=>?_⟩
   rcases stk b w with q | ⟨⟨o2,q1,q2⟩,_⟩
   ·exact absurd e (q▸S.Lf o)
   ·exact absurd (S.fc _ _ _ q1 e q2) nm
  ·exact ⟨o',x.oth b o' k1 w nx,k2,k3⟩
 ·have e':=S.gd b o e
  have nx:b∉xs:=λq=>(fr b q).2.2 o e'
  refine x.oth b o (S.gk b o e) (λw=>?_) nx
  rcases stk b w with q | ⟨_,q⟩
  ·exact S.Lf o (q▸e')
  ·rw [q] at e; cases e
 ·obtain ⟨m,hm,hv⟩:=S.loc
  obtain ⟨o,ho⟩:∃ o,s.heap.get? c.L=some o:=by obtain ⟨o,_,_,h,_⟩:=hm; exact ⟨o,h⟩
  have nx:c.L∉xs:=λq=>(fr _ q).1 rfl
  by_cases w:c.L∈as
  ·obtain ⟨sl,w1⟩:=x.frm _ o ho w nx
   exact ⟨m,Ns.i3 hm ho w1 rfl,hv⟩
  ·exact ⟨m,Ns.i3 hm ho (x.oth _ o ho w nx) rfl,hv⟩
 ·obtain ⟨a,o,h1,h2,h3,h4,h5⟩:=S.hp n so e
  have nx:a∉xs:=λq=>(fr a q).2.1 n so e h1
  refine ⟨a,o,h1,x.oth a o h2 (λw=>?_) nx,h3,h4,h5⟩
  rcases stk a w with q | ⟨⟨o2,q1,q2⟩,_⟩
  ·exact h4 q
  ·exact S.Av (N:=λ_=>True) q1 q2 ⟨n,so,trivial,e,h1,h2⟩
theorem dI.all {c:Cx} (h:dI c):∃ l,c.A.frames=some l∧(∀ b∈l.filterMap (·.frame),b=c.L∨((∃ o,c.fz b o∧d7 o)∧c.hG.get? b=none))∧∀ {ρ:Nm} {σ:SS} {s:Shared},c.SR ρ σ s→s.heap.FunFrames emp l:=by
 obtain ⟨l,h1,h2⟩:=h
 refine ⟨l,h1,λb hb=>?_,λ{ρ σ s} S=>?_⟩
 ·obtain ⟨env,he,hf⟩:=List.mem_filterMap.mp hb
  obtain ⟨_,L,q1,q2⟩:=h2 env he
  have hf:env.frame=some b:=hf
  rw [q1] at hf; cases hf
  exact q2
 ·clear h1
  induction l with
  | nil=>trivial
  | cons env l ih =>
   obtain ⟨k1,L,k2,k3⟩:=h2 env (.head _)
   refine ⟨k1,?_,ih λe he=>h2 e (.tail _ he)⟩
   rcases k3 with rfl | ⟨⟨o,q1,_,es,ep,q2⟩,_⟩
   ·obtain ⟨_,⟨o,es,ep,ho,hd,_⟩,_⟩:=S.loc
    exact ⟨_,o,k2,wu _,ho,λvs q=>by rw [hd] at q; cases q⟩
   ·obtain ⟨o',w1,w2,_⟩:=S.fzk _ _ q1
    exact ⟨_,o',k2,wu _,w1,λvs q=>by rw [w2,q2] at q; cases q⟩
noncomputable abbrev iw:List Value:=[.ref 31,.type "Exception",.type "BaseException",.type "object"]
noncomputable abbrev pK:Obj:=excClassObj "AdaRaise" "AdaRaise" 70 69 [.ref 31] iw true [] [] false none none (some (.ref 54)) none (some (.str "AdaRaise" 244)) (some (.str "AdaRaise" 252)) (some (.bool true)) "Exception.__new__"
theorem kh {P:Params} {h:Heap} (X:(KK P).In h):h.get? 70=some pK:=X _ _ (by nofun)
section
variable {P:Params} {M:Model} {prog:Program} {w:World} {A:Around} {E:Value→Shared→Prop} {h:Heap} {g:Array GenState} {d:Drawn} {t:Nat} {os:OsState}
theorem wy {rest:List Value} {Q:Unit→Shared→Prop} (hC:h.get? 70=some pK) (hq:Q () ⟨h,g,d,t,os⟩):wpAny M A (checkBuiltinCall "Exception.__new__" ⟨.ref 70::rest,[]⟩) Q E ⟨h,g,d,t,os⟩:=by
 have F:=PySem.F.excBase_Exception
 have hcont:(Value.ref 70::iw).contains (.type "Exception")=true:=by decide +kernel
 have hstar:=F.noStar
 simp only [checkBuiltinCall,F.newKind,F.newSplit,F.newRow]
 repeat (first | refine wpAny_loadPart_at hC ?_ | (refine wpAny_isSubtype_exc hC ?_; rw [hcont]) | refine wpAny_staticBase_exc hC ?_ | refine wpAny_madeBy_exc hC ?_ | simp only [bne_self_eq_false,Bool.false_eq_true,if_false] | wp_step)
 exact hq
theorem Xv {R:Result→Shared→Prop} {rest:List Value} (hC:h.get? 70=some pK)
 (hq:R (.ok (.ret (.ref (h.objs.size+1)))) ⟨(h.push { cls:=.type "tuple",data:=.seq rest.toArray }).push
  { cls:=.ref 70,data:=.fields #[.ref h.objs.size,.none,.none,.none,.bool false,.none] },g,d,t,os⟩) (hrest:rest.length≤sizeLine) :
 codeAny (model prog w) A (.builtin "Exception.__new__" ⟨.ref 70::rest,[]⟩) R ⟨h,g,d,t,os⟩:=by
 have F:=PySem.F.excBase_Exception
 have hends:=F.ends
 have hcB:(Value.ref 70::iw).contains (.type "Exception")=true:=by decide +kernel
 have hcA:(Value.ref 70::iw).contains (.type "AttributeError")=false:=by decide +kernel
 have hcN:(Value.ref 70::iw).contains (.type "NameError")=false:=by decide +kernel
 refine codeAny_builtinAt F.entry ?_
 unfold Builtin.«BaseException.__new__»
 refine PySem.wpAt_bind ?_
 show PySem.wpAt _ _ _ (stack >>= _) _ _ _
 refine PySem.wpAt_bind (PySem.wpAt_stack λp below=>PySem.wpAt_of_wpAny ?_)
 wp_walk
 refine PySem.wpAt_of_wpAny ?_
 rw [F.owner]
 repeat (first | with_reducible refine wpAny_madeHere_exc F.canon hC ?_ | with_reducible refine wpAny_loadPart_at hC ?_ | (with_reducible refine wpAny_isSubtype_exc hC ?_; first | rw [hcB] | rw [hcA] | rw [hcN]) | wp_step)
 show R _ _
 rw [Heap.size_push]
 exact hq
theorem zg {rest:List Value} {Q:Fin→Shared→Prop} (X:(KK P).In h)
 (hq:∀ h' e,Heap.MadeExcOf h h' e (.ref 70) rest →
  wpAny (model prog w) A (call (.ref 67) (.ref e::rest)) (λr s'=>r=.none∧Q (.done (.ret (.ref e))) s') E ⟨h',g,d,t,os⟩) (hrest:rest.length≤sizeLine) :
 wpAny (model prog w) A (Builtin.«type.__call__» ⟨.ref 70::rest,[]⟩) Q E ⟨h,g,d,t,os⟩:=by
 have F:=PySem.F.excBase_Exception
 have hC:=kh X
 repeat (first | with_reducible refine wpAny_loadPart_at hC ?_ | with_reducible refine wpAny_madeBy_exc hC ?_ | wp_step)
 refine codeAny_call_builtin_code (Code.quiet_builtin _ F.quiet) (wy hC ?_)
 refine Xv hC ?_ hrest
 show wpAny _ _ _ _ _ _
 have k:∀ b o,h.get? b=some o→((h.push { cls:=.type "tuple",data:=.seq rest.toArray }).push
  { cls:=.ref 70,data:=.fields #[.ref h.objs.size,.none,.none,.none,.bool false,.none] }).get? b=some o:=λb o e=>cK _ (cK _ e)
 have hC₁:=k _ _ hC
 have X₁:(KK P).In ((h.push { cls:=.type "tuple",data:=.seq rest.toArray }).push
  { cls:=.ref 70,data:=.fields #[.ref h.objs.size,.none,.none,.none,.bool false,.none] }):=λb o e=>k _ _ (X _ _ e)
 have hget:((h.push { cls:=.type "tuple",data:=.seq rest.toArray }).push
  { cls:=.ref 70,data:=.fields #[.ref h.objs.size,.none,.none,.none,.bool false,.none] }).get? (h.objs.size+1)=some
  { cls:=.ref 70,data:=.fields #[.ref h.objs.size,.none,.none,.none,.bool false,.none] }:=by heap_get
 have hcC:(Value.ref 70::iw).contains (.ref 70)=true:=by decide +kernel
 unfold isInstance
 repeat (first | with_reducible refine wpAny_loadPart_at hget ?_ | (with_reducible refine wpAny_isSubtype_exc hC₁ ?_; rw [hcC]) | wp_step)
 show wpAny _ _ (typeLookup (.ref 70) _) _ _ _
 refine (looks_findIn X₁ (r:=some (.ref 67)) (by nofun)).at ?_
 refine cL (aF ?_)
 unfold bindSpecial
 refine aF ((looks_typeIn X₁ (t:=.type "function") (by nofun)).at ?_)
 rw [if_pos (by decide)]
 refine aP (aF (bI (hq _ (h.objs.size+1) ⟨λb o hb=>k b o hb,Heap.get?_none_of_le (Nat.le_succ _),h.objs.size,hget,Heap.get?_none_of_le (Nat.le_refl _),?_⟩) (λr s' hr=>?_) λ_ _ x=>x))
 ·exact cK _ (Heap.get?_push_at rfl rfl)
 ·obtain ⟨rfl,hQ⟩:=hr
  wp_walk
  exact hQ
theorem SK {rest:List Value} {Q:Value→Shared→Prop} (X:(KK P).In h)
 (hq:∀ h' e,Heap.MadeExcOf h h' e (.ref 70) rest →
  wpAny (model prog w) (A.under (.builtin "type.__call__" ⟨.ref 70::rest,[]⟩)) (call (.ref 67) (.ref e::rest)) (λr s'=>r=.none∧Q (.ref e) s') E ⟨h',g,d,t,os⟩) (hrest:rest.length≤sizeLine) :
 wpAny (model prog w) A (call (.ref 70) rest) Q E ⟨h,g,d,t,os⟩:=by
 have hC:=kh X
 have f1:=tc_lookup
 have f2:=tc_bind (.ref 70)
 have hT:(⟨h,g,d,t,os⟩:Shared).TypeIs (.ref 70) "type" := ⟨_,hC,rfl⟩
 refine wpAny_call (codeAny_of_tree ?_)
 show wpAny _ _ (callAny (.ref 70) _) _ _ _
 repeat (any_goals (first | assumption | with_reducible refine wpAny_loadPart_at hC ?_ | wp_step))
 refine ⟨rfl,?_⟩
 refine codeAny_call_builtin_at (Code.quiet_builtin _ (by decide +kernel)) entry_typeCall (wpAny_check_type_call_sub hC (zg X (λh' e hm=>?_) hrest))
 exact hq h' e hm
theorem tH {e:Addr} {oe:Obj} {rest:List Value} {Q:Unit→Shared→Prop} (hC:h.get? 70=some pK) (he:h.get? e=some oe) (hcls:oe.cls=.ref 70) (hq:Q () ⟨h,g,d,t,os⟩) :
 wpAny M A (checkBuiltinCall "Exception.__init__" ⟨.ref e::rest,[]⟩) Q E ⟨h,g,d,t,os⟩:=by
 have F:=PySem.F.excBase_Exception
 have hcB:(Value.ref 70::iw).contains (.type "Exception")=true:=by decide +kernel
 have hshort:=F.noStar
 simp only [checkBuiltinCall,F.initKind,F.initSplit,F.initRow]
 repeat (first | (with_reducible refine wpAny_loadPart_at he ?_; rw [hcls]) | with_reducible refine wpAny_loadPart_at hC ?_ | (with_reducible refine wpAny_isSubtype_exc hC ?_; rw [hcB]) | wp_step)
 refine wpAny_onRaise ?_
 rw [show ∀ (a b:String) (n:Nat),Bind.check ⟨.positional,"*","Exception",.self,[⟨"args",.varPos,false⟩]⟩ a b n (List.map (λx=>x.fst) ({ pos:=Value.ref e::rest }:Args).kw)=pure () from
  λa b n=>check_star_args _ _ _ _ _ _]
 exact aP hq
theorem SM {e t0:Addr} {rest:List Value} {Q:Value→Shared→Prop} (X:(KK P).In h) (he:h.get? e=some { cls:=.ref 70,data:=.fields #[.ref t0,.none,.none,.none,.bool false,.none] }) (hrest:rest.length≤sizeLine)
 (hq:∀ h',(∀ b o,b≠e→h.get? b=some o→h'.get? b=some o)→(∃ T,h'.get? e=some { cls:=.ref 70,data:=.fields #[.ref T,.none,.none,.none,.bool false,.none] })→Q .none ⟨h',g,d,t,os⟩) :
 wpAny (model prog w) A (call (.builtin "Exception.__init__") (.ref e::rest)) Q E ⟨h,g,d,t,os⟩:=by
 have F:=PySem.F.excBase_Exception
 have hC:=kh X
 refine wpAny_call (codeAny_call_builtin F.init.plain F.initEntry (tH hC he rfl ?_))
 wp_walk
 refine hq _ (λb o hb Tb=>?_) ⟨h.objs.size,?_⟩
 ·rw [Heap.get?_update_other _ _ (Ne.symm hb)]
  exact cK _ Tb
 ·rw [Heap.get?_update_self _ (cK _ he) rfl]
  rfl
end
end Mine
end
noncomputable section
open PySem PySem.W PyProof.Rows PySem.Calls PySem.SeqAt Builtin Builtin.ObjectAttr
namespace Mine
variable (P:Params)
noncomputable abbrev HP:ClassData:={ name := "AdaRaise",bases:=[.ref 31],mro:=.ref 70::iw,ns:=69,qualname := "AdaRaise",hasDict:=true,slotNames:=[],subclasses:=[],abstract:=false,collection:=none,hasDel:=false }
theorem tI:clsIn (KK P) 70=some HP:=by nofun
noncomputable abbrev d0 (d:Option Addr) (fs:Array Value):Obj:={ cls:=.ref 70,dict:=d,data:=.fields fs }
section
variable {P:Params} {prog:Program} {w:World} {A:Around} {E:Value→Shared→Prop} {s:Shared}
theorem Xw {R:Result→Shared→Prop} {x:Addr} {ox:Obj} {od:Option Obj} {name:Str} {tk:Tok} {v:Value} (X:(KK P).In s.heap) (I:InstAt s.heap x ox 70 od) (ht:takerIn (KK P) 70 name=some none)
 (h:∀ b,wpAny (model prog w) A.in1 (storeInOwnDict (.ref x) (.ref 70) (.str name tk) name v b)
  (λfin s'=>match fin with | .done f=>R (.ok f) s' | .again c'=>c'.quiet=true∧codeAny (model prog w) A c' R s') (λe s'=>R (.error e) s') s) :
 codeAny (model prog w) A (.call (.builtin "object.__setattr__") ⟨[.ref x,.str name tk,v],[]⟩) R s:=by
 have SF:=PySem.F.store_object
 have hc:=tI P
 have sub:Looks (model prog w) s.heap (isInstance (.ref x) (.type "object")) true:=I.type.andThen (looks_mroIn X (by nofun))
 refine codeAny_call_builtin SF.slot.plain SF.entry (@check_slot (model prog w) _ _ s "object.__setattr__" "object" "__setattr__" (.ref x) [.str name tk,v] [] _ SF.kind SF.split sub (SF.args (.ref x) (.str name tk) v) ?_)
 obtain ⟨attr,ha,hr⟩:=Option.bind_eq_some_iff.mp ht
 have hm:Looks (model prog w) s.heap (mroOf (.ref 70)) HP.mro:=(looks_clsIn X hc).andThen .now
 have L3:Looks (model prog w) s.heap (storeTaker? attr) none:=by
  cases attr with
  | none=>exact .now
  | some a =>
   obtain ⟨b,hb,hr⟩:=bY hr
   refine (looks_takesIn X hb).andThen ?_
   cases b with
   | false=>exact .now
   | true=>cases hr
 rw [osa_eq,refuse_eq]
 refine aF (aF (I.type.here (aF (hm.here ?_))))
 rw [show refuseLoop (.ref x) "__setattr__" HP.mro=pure () from by rw [refuseLoop_ref,refuseLoop_ref]; exact PySem.F.store_Exception.passes (.ref x)]
 refine aP (aF (I.type.here (aF ((looks_findIn X ha).here (aF (L3.here ?_))))))
 exact h _
theorem Bg (P:Params):findIn (KK P) (.ref 70) "__setattr__" = some (some (.builtin "object.__setattr__")):=by nofun
theorem Xx {ν:Nat→Int} {ρ:Nm} {e D:Addr} {fs:Array Value} {name:Str} {sv:SV} {v:Value} {ses:List (Nat×SV)} {od:Obj} {Q:Unit→Shared→Prop} (X:(KK w.params).In s.heap) (he:s.heap.get? e=some (d0 (some D) fs)) (hD:s.heap.get? D=some od)
 (ho:OR w.params ν ρ (.dict ses) od) (hl:ses.length≤900) (hx:fo name=true) (ht:takerIn (KK w.params) 70 name=some none) (hv:VR ν ρ sv v)
 (hQ:∀ h' tk od',Heap.SameBut D s.heap h'→h'.get? D=some od'→OR w.params ν ρ (.dict (Eg ses (enc name) sv)) od'→Q () { s with heap:=h',toks:=tk }):wpAny (model prog w) A (setAttr (.ref e) name v) Q E s:=by
 obtain ⟨es,rfl,hes⟩:=ho
 have hl':es.length≤900:=by rw [hes.length]; exact hl
 have hcd:=tI w.params
 rw [← dec_enc hx] at ht ⊢
 generalize enc name=x at *
 refine set_plain (ox:=d0 (some D) fs) (od:=some (dictOf es es.length)) X ⟨he,rfl,rfl,hD⟩ (Bg _) (Xw (s:={ s with toks:=s.toks+1 }) (ox:=d0 (some D) fs) (od:=some (dictOf es es.length)) X ⟨he,rfl,rfl,hD⟩ ht λb=>?_)
 have U:=λ(tk:Tok)=>Heap.get?_update_self (Obj.putName (dec x) (PyData.keyHash w.params (dec x)) (.str (dec x) tk) v) hD (by rw [putName_dict]; rfl)
 refine aF (aP (aF (aF (wpAny_loadPart he (aF ((looks_clsIn X hcd) _ _ _ _ (λ_ _ e=>e) ?_))))))
 refine aP (a:=some D) (aF (aP (aF ?_)))
 unfold nsSet
 refine aF (aF (wpAny_askSetting (aP (aF (wpAny_mkText (aF (wpAny_loadPart hD ?_)))))))
 dsimp only
 have nr:(!es.toArray.any (·.key.isStr (dec x))&&es.toArray.any (·.refKey))=false:=by
  rw [← Array.any_toList,← Array.any_toList,hes.noRef,Bool.and_false]
 rw [aRefKeyMayBeTheName_at,nr]
 refine wpAny_updatePart hD ?_
 refine aF (wpAny_lookBehind (U _) (by rw [putName_dict]; exact pastItsLine_dict (by rw [List.size_toArray,sizeLine_eq]; have:=sM (x:=dec x) (h:=PyData.keyHash w.params (dec x)) (k:=.str (dec x) (s.toks+1)) (v:=v) (es:=es); omega)) ?_)
 refine aP ?_
 exact hQ _ _ _ (Heap.SameBut.update ..) (U _) (by rw [putName_dict,← dH (h:=PyData.keyHash w.params (dec x)) (k:=.str (dec x) (s.toks+1)) (v:=v)]; exact ⟨_,rfl,hes.putL hv⟩)
theorem Xy {ν:Nat→Int} {ρ:Nm} {e:Addr} {fs:Array Value} {name:Str} {sv:SV} {v:Value} {Q:Unit→Shared→Prop} (X:(KK w.params).In s.heap) (he:s.heap.get? e=some (d0 none fs))
 (hx:fo name=true) (ht:takerIn (KK w.params) 70 name=some none) (hv:VR ν ρ sv v)
 (hQ:∀ h' tk D od',(∀ b o,b≠e→s.heap.get? b=some o→h'.get? b=some o)→s.heap.get? D=none→h'.get? e=some (d0 (some D) fs)→h'.get? D=some od'→OR w.params ν ρ (.dict [(enc name,sv)]) od'→Q () { s with heap:=h',toks:=tk }) :
 wpAny (model prog w) A (setAttr (.ref e) name v) Q E s:=by
 have hcd:=tI w.params
 rw [← dec_enc hx] at ht ⊢
 generalize enc name=x at *
 refine set_plain (ox:=d0 none fs) (od:=none) X ⟨he,rfl,rfl,trivial⟩ (Bg _) (Xw (s:={ s with toks:=s.toks+1 }) (ox:=d0 none fs) (od:=none) X ⟨he,rfl,rfl,trivial⟩ ht λb=>?_)
 obtain ⟨h,g,d,t,os⟩:=s
 dsimp only at X he
 have hxs:e≠h.objs.size:=Nat.ne_of_lt (bE he)
 have he₁:(h.push { cls:=.type "dict",data:=.dict #[] }).get? e=some (d0 none fs):=cK _ he
 have hD:((h.push { cls:=.type "dict",data:=.dict #[] }).update e λo=>{ cls:=o.cls,dict:=some h.objs.size,data:=o.data,slots:=o.slots }).get? h.objs.size=some (dictOf [] 0) :=
  (Heap.get?_update_ne _ _ _ _ hxs.symm).trans (Heap.get?_push_at rfl rfl)
 have he₂:((h.push { cls:=.type "dict",data:=.dict #[] }).update e λo=>{ cls:=o.cls,dict:=some h.objs.size,data:=o.data,slots:=o.slots }).get? e=some (d0 (some h.objs.size) fs):=Heap.get?_update_self _ he₁ rfl
 refine aF (aP (aF (aF (wpAny_loadPart he (aF ((looks_clsIn X hcd) _ _ _ _ (λ_ _ e=>e) ?_))))))
 show wpAny _ _ (alloc { cls:=.type "dict",data:=.dict #[] } >>= λd=>update e (λo=>{ o with dict:=some d }) >>= λ_=>dictMade (.ref 70) e d) _ _ _
 refine aF (wpAny_alloc' (aF (wpAny_update' he₁ ?_)))
 refine aP (a:=some h.objs.size) (aF (aP (aF ?_)))
 have U:=λ(tk:Tok)=>Heap.get?_update_self (Obj.putName (dec x) (PyData.keyHash w.params (dec x)) (.str (dec x) tk) v) hD (by rw [putName_dict]; rfl)
 unfold nsSet
 refine aF (aF (wpAny_askSetting (aP (aF (wpAny_mkText (aF (wpAny_loadPart hD ?_)))))))
 dsimp only
 rw [aRefKeyMayBeTheName_at,show (!(([]:List DictEntry).toArray.any (·.key.isStr (dec x)))&&([]:List DictEntry).toArray.any (·.refKey))=false from by rw [← Array.any_toList,← Array.any_toList]; rfl]
 refine wpAny_updatePart hD ?_
 refine aF (wpAny_lookBehind (U _) (by rw [putName_dict]; exact pastItsLine_dict (by rw [List.size_toArray,sizeLine_eq]; have:=sM (x:=dec x) (h:=PyData.keyHash w.params (dec x)) (k:=.str (dec x) (t+1)) (v:=v) (es:=[]); simp at this; omega)) ?_)
 refine aP ?_
 refine hQ _ _ h.objs.size _ (λb o hb Tb=>?_) (Heap.get?_none_of_le (Nat.le_refl _)) ?_ (U _) ?_
 ·rw [Heap.get?_update_other _ _ (Ne.symm (Nat.ne_of_lt (bE Tb))),Heap.get?_update_other _ _ (Ne.symm hb)]
  exact cK _ Tb
 ·rw [Heap.get?_update_other _ _ hxs.symm]
  exact he₂
 ·rw [putName_dict,show putN (dec x) ([]:List DictEntry) 0=(putL (dec x) (PyData.keyHash w.params (dec x)) (.str (dec x) (t+1)) v ([]:List DictEntry)).length from by rw [dH]; rfl]
  exact ⟨_,rfl,dk.putL (es:=[]) hv trivial⟩
end
end Mine
end
noncomputable section
open PySem PySem.W PyProof.Rows PySem.Calls PySem.SeqAt
namespace Mine
variable (P:Params)
noncomputable def fk (fz:Addr→Obj→Prop):List (Addr×Obj)→Addr→Obj→Prop
 | []=>fz
 | p::r=>dX (fk fz r) p.1 p.2
theorem b7 {fz:Addr→Obj→Prop}:∀ {l:List (Addr×Obj)} {b:Addr} {o:Obj},fk fz l b o↔fz b o∨(b,o)∈l
 | [],b,o=>⟨.inl,λh=>h.elim id λq=>nomatch q⟩
 | p::r,b,o=>by
  show fk fz r b o∨(b=p.1∧o=p.2)↔_
  rw [b7 (l:=r)]
  constructor
  ·rintro ((h | h) | ⟨rfl,rfl⟩)
   ·exact .inl h
   ·exact .inr (.tail _ h)
   ·exact .inr (.head _)
  ·rintro (h | h)
   ·exact .inl (.inl h)
   ·rcases aM h with rfl | h
    ·exact .inr ⟨rfl,rfl⟩
    ·exact .inl (.inr h)
noncomputable abbrev Cx.fk (c:Cx) (l:List (Addr×Obj)):Cx:={ c with fz:=Mine.fk c.fz l }
noncomputable def XL (c:Cx) (ρ:Nm) (σ:SS) (s:Shared) (l:List (Addr×Obj)):Prop:=∀ p∈l,s.heap.get? p.1=some p.2∧cu c ρ σ p.1
noncomputable def Pl (l:List (Addr×Obj)):Prop:=(∀ p∈l,p.2.cls≠.none∧p.2.cls≠.type "tuple")∧(l.map (·.1)).Nodup
theorem cu.iff {c:Cx} {ρ ρ':Nm} {σ:SS} {b:Addr} (h:cu c ρ σ b) (e:∀ n so,σ.hp.get n=some so→ρ' n=ρ n):cu c ρ' σ b:=⟨h.1,λn so q=>by rw [e n so q]; exact h.2.1 n so q,h.2.2⟩
theorem SR.jo {c:Cx} {ρ:Nm} {σ:SS} {s:Shared} (S:c.SR ρ σ s):∀ {l:List (Addr×Obj)},XL c ρ σ s l→(l.map (·.1)).Nodup→(c.fk l).SR ρ σ s
 | [],_,_=>S
 | p::r,x,nd=>by
  obtain ⟨h1,h2⟩:=x p (.head _)
  rw [List.map_cons,List.nodup_cons] at nd
  have S':=SR.jo S (l:=r) (λq hq=>x q (.tail _ hq)) nd.2
  exact SR.freeze S' h1 h2.1 h2.2.1 λo q=>by
   rcases b7.mp q with q | q
   ·exact h2.2.2 o q
   ·exact nd.1 (List.mem_map.mpr ⟨_,q,rfl⟩)
theorem SR.Bh {c:Cx} {ρ:Nm} {σ:SS} {s:Shared} {l:List (Addr×Obj)} (S:(c.fk l).SR ρ σ s) (hg:∀ b o,c.hG.get? b=some o→c.fz b o) (pl:Pl l) (nf:∀ p∈l,∀ o,¬ c.fz p.1 o):c.SR ρ σ s∧XL c ρ σ s l:=by
 have at_:∀ p∈l,s.heap.get? p.1=some p.2:=λp hp=>(S.fzk p.1 p.2 (b7.mpr (.inr hp))).to (kK (pl.1 p hp).1)
 refine ⟨⟨λb o e=>S.fzk b o (b7.mpr (.inl e)),λb o o' e e'=>S.fc b o o' (b7.mpr (.inl e)) (b7.mpr (.inl e')),S.gk,hg,S.loc,λo e=>S.Lf o (b7.mpr (.inl e)),λn so e=>?_,S.inj,S.dom⟩,λp hp=>⟨at_ p hp,λq=>?_,λn so e q=>?_,nf p hp⟩⟩
 ·obtain ⟨a,o,h1,h2,h3,h4,h5⟩:=S.hp n so e
  exact ⟨a,o,h1,h2,h3,h4,λhs o' q=>h5 hs o' (b7.mpr (.inl q))⟩
 ·exact S.Lf p.2 (b7.mpr (.inr (by rw [← q]; exact hp)))
 ·obtain ⟨a,o,h1,h2,h3,h4,h5⟩:=S.hp n so e
  rw [h1] at q
  cases q
  cases hs:ag so with
  | false=>exact h5 hs p.2 (b7.mpr (.inr hp))
  | true =>
   rw [at_ p hp] at h2
   cases h2
   cases so with
   | tup xs=>obtain ⟨vs,n,e,_⟩:=h3; exact (pl.1 p hp).2 (by rw [e])
   | _=>cases hs
theorem Cx.Bi {c:Cx} {l:List (Addr×Obj)} {n:Nat} (rm:Rm c n):Rm (c.fk l) n:=rm.fz rfl rfl rfl λb o e=>b7.mpr (.inl e)
noncomputable abbrev XF:Nat:=40
abbrev lx:Lo:=ai (cG P) XF
theorem fP {c:Cx} {mg mb:Str→Option Value} {ce:CE} {env:Env} {ρ:Nm} {σ:SS} {s:Shared} {l:List (Addr×Obj)} (PG:aY (cG c.w.params) (KK c.w.params) mg mb c.hG) (rm:Rm c XF) (eo:aG c ρ ce env) {e:Expr} {outs:List (SV×SS)} (h:(lx c.w.params).E ce e σ=some outs)
 (S:c.SR ρ σ s) (x:XL c ρ σ s l) (pl:Pl l) {Q:Value→Shared→Prop} {E:Value→Shared→Prop}
 (hQ:∀ y σ1 ρ1 s1 v,(y,σ1)∈outs→Ext ρ ρ1→c.SR ρ1 σ1 s1→XL c ρ1 σ1 s1 l→VR c.ν ρ1 y v→aT s s1→Q v s1):wpAny c.M c.A (eval e env) Q E s :=
 (cP ⟨c.prog,c.w,c.ν,c.hG⟩ PG rfl XF).E (c.fk l) ρ ce env e ⟨rfl,rfl,rfl,rfl⟩ (Cx.Bi rm) (eo.at rfl) σ outs h ρ s (.refl _) (S.jo x pl.2) Q E λy σ1 ρ1 s1 v hm x1 S1 r1 sm1=>by
  obtain ⟨S2,x2⟩:=SR.Bh S1 S.gd pl λp hp=>(x p hp).2.2.2
  exact hQ y σ1 ρ1 s1 v hm x1 S2 x2 r1 sm1
theorem ki {c:Cx} {mg mb:Str→Option Value} {ce:CE} {env:Env} {ρ:Nm} {σ:SS} {s:Shared} {l:List (Addr×Obj)} (PG:aY (cG c.w.params) (KK c.w.params) mg mb c.hG) (rm:Rm c XF) (eo:aG c ρ ce env) {f:Value} {args:List Expr} {p:Pos} {outs:List (List SV×SS)} (h:qF (lx c.w.params) ce args σ=some outs)
 (S:c.SR ρ σ s) (x:XL c ρ σ s l) (pl:Pl l) {Q:Args→Shared→Prop} {E:Value→Shared→Prop}
 (hQ:∀ ys σ1 ρ1 s1 (b:Args),(ys,σ1)∈outs→Ext ρ ρ1→c.SR ρ1 σ1 s1→XL c ρ1 σ1 s1 l→bX c.ν ρ1 ys b.pos→b.kw=[]→aT s s1→Q b s1):wpAny c.M c.A (evalArgs f true (backTo p (starEach args env)) []) Q E s :=
 gM (c:=c.fk l) (cP ⟨c.prog,c.w,c.ν,c.hG⟩ PG rfl XF) ⟨rfl,rfl,rfl,rfl⟩ (Cx.Bi rm) args (eo.at rfl) σ outs h ρ s (.refl _) (S.jo x pl.2) Q E λys σ1 ρ1 s1 b hm x1 S1 r1 sm1=>by
  obtain ⟨S2,x2⟩:=SR.Bh S1 S.gd pl λp hp=>(x p hp).2.2.2
  exact hQ ys σ1 ρ1 s1 b hm x1 S2 x2 r1.1 r1.2 sm1
theorem XL.bo {c:Cx} {env:Env} {oL:Obj} {C:Addr} {ρ:Nm} {σ:SS} {s:Shared} {l:List (Addr×Obj)} (x:XL (c.bo env oL C) ρ σ s l):∀ {ls:List (Nat×SV)},XL c ρ ⟨ls,σ.hp,σ.nx⟩ s l:=λp hp =>
 let ⟨h1,_,h3,h4⟩:=x p hp; ⟨h1,λq=>h4 (iE oL) (.inr ⟨q,rfl⟩),h3,λo q=>h4 o (.inl q)⟩
set_option backward.match.sparseCases true in
theorem jq {c:Cx} {mg mb:Str→Option Value} (PG:aY (cG c.w.params) (KK c.w.params) mg mb c.hG) (hdp:c.A.depth<recursionLimit) {f:Addr} {d:bf} (F:aq (KK c.w.params) f d) {xs:List SV} {vs:List Value} {ρ:Nm} {σ σ1:SS} {cs:List (Nat×Nat)} {s:Shared} {l:List (Addr×Obj)}
 (hv:bX c.ν ρ xs vs) (z0:Nat.beq xs.length d.params.length=true) (hpc:cJ (cS d.nm d.params xs []) d.cl { σ with loc:=a7 d.nm d.params xs [] } []=some (σ1,cs)) (S:c.SR ρ σ s) (x:XL c ρ σ s l) (pl:Pl l) {Q E:Value→Shared→Prop}
 (hbody:∀ env ρ1 s1 oL C,s.heap.get? c.L=some oL→env.frame=some C→(∀ n,Rm c (n+1)→Rm (c.bo env oL C) n)→aG (c.bo env oL C) ρ1 ⟨d.nm,cs⟩ env→Ext ρ ρ1→(c.bo env oL C).SR ρ1 σ1 s1→XL (c.bo env oL C) ρ1 σ1 s1 l→aT s s1 →
  wpAny c.M (c.A.deeper env) (execs d.body env) (λf s'=>Q (match f with | .ret v=>v | _=>.none) s') (λe s'=>wpAny c.M (c.A.deeper env) (leaving env e) (λ_ s''=>E e s'') (λe' s''=>E e' s'') s') s1):wpAny c.M c.A (call (.ref f) vs) Q E s:=by
 refine wpAny_call ?_
 rw [← F.nm,← F.cl] at hpc
 have z:dy d xs=true:=by
  have h:=F.chk
  rw [Bool.and_eq_true,Bool.and_eq_true] at h
  unfold dy
  rw [z0,h.1.1,h.1.2,h.2]; rfl
 obtain ⟨oL,hL⟩:∃ o,s.heap.get? c.L=some o:=by obtain ⟨_,⟨o,_,_,h,_⟩,_⟩:=S.loc; exact ⟨o,h⟩
 have no:s.heap.get? s.heap.objs.size=none:=by
  cases w:s.heap.get? s.heap.objs.size with
  | none=>rfl
  | some o'=>exact absurd (bE w) (Nat.lt_irrefl _)
 have Sf:(c.fk l).SR ρ σ s:=S.jo x pl.2
 refine uc (c:=c) (fz':=dX (fk c.fz l) c.L (iE oL)) PG.G S.br hdp F hv z hpc (λa o w=>?_) (λm so a e1 e2=>?_) (λh' tk m hn hk hl=>SR.enter Sf hn hk no hl hL) (λenv' ρ1 s1 eF eo x1 S2 sm1=>?_)
 ·rcases w with w | ⟨w,_⟩
  ·obtain ⟨o2,z⟩:=(Sf.fzk _ _ w).at
   exact bE z
  ·exact w▸bE hL
 ·obtain ⟨b,ob,g1,g2,_⟩:=S.hp m so e1
  rw [e2] at g1; cases g1
  exact bE g2
 ·rw [F.nm] at eo
  have iff:∀ b o,dX (fk c.fz l) c.L (iE oL) b o↔fk (dX c.fz c.L (iE oL)) l b o:=λb o=>by
   rw [b7]
   show fk c.fz l b o∨_↔(c.fz b o∨_)∨_
   rw [b7,or_assoc,or_assoc,or_comm (a:=(b,o)∈l)]
  have S3:((c.bo env' oL s.heap.objs.size).fk l).SR ρ1 σ1 s1:=by
   refine ⟨λb o e=>S2.fzk b o ((iff b o).mpr e),λb o o' e e'=>S2.fc b o o' ((iff b o).mpr e) ((iff b o').mpr e'),S2.gk,λb o e=>(iff b o).mp (S2.gd b o e),S2.loc,λo e=>S2.Lf o ((iff _ o).mpr e),λn so e=>?_,S2.inj,S2.dom⟩
   obtain ⟨a,o,h1,h2,h3,h4,h5⟩:=S2.hp n so e
   exact ⟨a,o,h1,h2,h3,h4,λhs o' q=>h5 hs o' ((iff a o').mpr q)⟩
  obtain ⟨S4,x4⟩:=SR.Bh S3 (λb o e=>.inl (S.gd b o e)) pl λp hp o q=>by
   rcases q with q | ⟨q,_⟩
   ·exact (x p hp).2.2.2 o q
   ·exact (x p hp).2.1 q
  refine bI (hbody env' ρ1 s1 oL s.heap.objs.size hL eF (λn r=>⟨r.stk.push (env:=env') rfl rfl (λ_ _ e=>.inl e) (S.FW hL) eo.kind eF,r.hh,by show c.A.depth+1+4 * n+44<_; have:=r.depth; omega,by show c.A.units+3+60 * n+660<_; have:=r.units; omega⟩) (eo.at rfl) x1 S4 x4 sm1) (λf s' h=>h) λe s' h=>h
noncomputable def Xz:List Nat:=[1718379891,1954047348]
noncomputable def X0:List (Nat×NameKind):=[(1718379891,.local),(1954047348,.local),(2037169923944901474373,.globalImplicit)]
abbrev zh:bf:=aR (KK P) 28 Xz X0 []
theorem aAi:Q9 (KK P) 28 Xz X0 []=true:=by nofun
theorem aAj:aq (KK P) 28 (zh P):=cy (aAi P) λx x=>by nofun
noncomputable def X5:List Nat:=[1718379891,1701667182,1701734764,1954047348]
noncomputable def X6:List (Nat×NameKind):=[(1718379891,.local),(1701667182,.local),(1701734764,.local),(1954047348,.local),(8245935277854516289,.globalImplicit)]
abbrev tJ:bf:=aR (KK P) 67 X5 X6 []
theorem aAk:Q9 (KK P) 67 X5 X6 []=true:=by nofun
theorem aAl:aq (KK P) 67 (tJ P):=cy (aAk P) λx x x x=>by nofun
noncomputable def QI:List Nat:=[1954047348]
noncomputable def QJ:List (Nat×NameKind):=[(1954047348,.local),(7310302486867305537,.globalImplicit)]
abbrev HQ:bf:=aR (KK P) 508 QI QJ []
theorem X7:Q9 (KK P) 508 QI QJ []=true:=by nofun
theorem QK:aq (KK P) 508 (HQ P):=cy (X7 P) λx=>by nofun
noncomputable def aAm:Stmt→List Pos
 | .Expr (.Call (.Attribute (.Name _ a) _ b) [.Name _ c,.Name _ d] _ e) f=>[a,b,c,d,e,f]
 | .Assign [.Attribute (.Name _ a) _ b] (.Name _ c) d=>[a,b,c,d]
 | _=>[]
noncomputable def pq (b:List Stmt) (i j:Nat):Pos:=(aAm (b.getD i (.Pass default))).getD j default
noncomputable def zi (b:List Stmt) (i:Nat) (x y:Str):Stmt:=.Assign [.Attribute (.Name "self" (pq b i 0)) x (pq b i 1)] (.Name y (pq b i 2)) (pq b i 3)
noncomputable def X8 (b:List Stmt) (x:Str):Expr:=.Call (.Attribute (.Name x (pq b 0 0)) "__init__" (pq b 0 1)) [.Name "self" (pq b 0 2),.Name "text" (pq b 0 3)] [] (pq b 0 4)
theorem SN:(zh P).body=[.Expr (X8 (zh P).body "Exception") (pq (zh P).body 0 5),zi (zh P).body 1 "text" "text"]:=by nofun
theorem SQ:(tJ P).body=[.Expr (X8 (tJ P).body "AdaError") (pq (tJ P).body 0 5),zi (tJ P).body 1 "name" "name",zi (tJ P).body 2 "word" "name",zi (tJ P).body 3 "line" "line"]:=by nofun
theorem SU:((pq (zh P).body 0 1).endLine == (pq (zh P).body 0 4).line)=true:=by nofun
theorem SW:((pq (tJ P).body 0 1).endLine == (pq (tJ P).body 0 4).line)=true:=by nofun
section
variable {M:Model} {prog:Program} {w:World} {A:Around} {E:Value→Shared→Prop} {s:Shared} {env:Env}
theorem QL {o:Expr} {name:Str} {apos pos:Pos} {args:List Expr} {Q:Value→Shared→Prop}
 (hbase:attributeBase o name env (eval o env)=eval o env)
 (hfew:((backTo pos (starEach args env)).all (λx=>!x.1)&&(backToKw pos (keywordEach [] env)).all (λx=>x.1.isSome)
  && decide (args.length+([]:List Keyword).length+(if ([]:List Keyword).isEmpty then 0 else 1)<30))=true)
 (hline:(apos.endLine == pos.line)=true)
 (h:wpAny M A (eval o env) (λov s₁=>∀ pl,wpAny M A (getMethod ov name pl) (λfx s₂=>wpAny M A (callWith pos fx.1 fx.2 (backTo pos (starEach args env)) []) Q E s₂) E s₁) E s) :
 wpAny M A (eval (.Call (.Attribute o name apos) args [] pos) env) Q E s:=by
 rw [arm_eval_Call,hbase]
 refine aF (bI h (λov s₁ h₁=>?_) λ_ _ e=>e)
 refine aF (wpAny_standAt ?_)
 have hform:methodCallForm (args.length+([]:List Keyword).length) (backTo pos (starEach args env)) (backToKw pos (keywordEach [] env))=true:=hfew
 have hpos:methodCallPos true o env apos pos=pure pos:=by unfold methodCallPos; simp [hline]
 unfold methodCall
 rw [hform]
 refine aF (cL (bI (h₁ _) (λfx s₂ h₂=>?_) λ_ _ x=>x))
 obtain ⟨f,first⟩:=fx
 exact aF (wpAny_of_eq hpos h₂)
theorem X9 {P:Params} {pl:Sem Bool} {Q:Value×List Value→Shared→Prop} (X:(KK P).In s.heap) (h:Q (.builtin "Exception.__init__",[]) { s with toks:=s.toks+1 }):wpAny (model prog w) A (getMethod (.type "Exception") "__init__" pl) Q E s:=by
 have hstub:opaqueClassAbove (.type "Exception")=pure none:=by nofun
 have L0:Looks (model prog w) s.heap (typeOf (.type "Exception")) (.type "type"):=Looks.of_pure (by nofun)
 have hg:findIn (KK P) (.type "type") "__getattribute__" = some (some (.builtin "type.__getattribute__")):=by nofun
 unfold getMethod specialOf
 refine aF (aF (L0.here ((looks_findIn X hg).here ?_)))
 dsimp only
 rw [if_pos canon_tga]
 refine aF (bI (Q:=λv=>Q (v,[])) (E:=E) ?_ (λ_ _ z=>aP z) λ_ _ z=>z)
 have LO:Looks (model prog w) s.heap (opaqueClassAbove (.type "Exception")) none:=Looks.of_pure hstub
 have hfc:findCls (KK P) (.type "Exception") (.type "type") "__init__" = some (.val (.builtin "Exception.__init__")):=by nofun
 exact cls_open X LO L0 hg (looks_hook X (r:=none) (by nofun)) (by nofun) hfc
  (aP (by show wpAny _ _ (handedOut (.builtin "Exception.__init__")) _ _ _; rw [handedOut_of (by nofun)]; exact aP h))
theorem YA {P:Params} {pl:Sem Bool} {Q:Value×List Value→Shared→Prop} (X:(KK P).In s.heap) (h:Q (.ref 28,[]) { s with toks:=s.toks+1 }):wpAny (model prog w) A (getMethod (.ref 31) "__init__" pl) Q E s :=
 method_cls X (by nofun) (cls_value X (mc:=.type "type") (by nofun) (by nofun) (by nofun) h)
end
structure XE (c:Cx) (ρ:Nm) (σ:SS) (s:Shared) (e D:Addr) (T0:Addr) (od:Obj) (ses:List (Nat×SV)):Prop where
 x:XL c ρ σ s [(e,d0 (some D) #[.ref T0,.none,.none,.none,.bool false,.none]),(D,od)]
 ne:e≠D
 o:OR c.w.params c.ν ρ (.dict ses) od
theorem XE.pl {c:Cx} {ρ:Nm} {σ:SS} {s:Shared} {e D T0:Addr} {od:Obj} {ses:List (Nat×SV)} (x:XE c ρ σ s e D T0 od ses):Pl [(e,d0 (some D) #[.ref T0,.none,.none,.none,.bool false,.none]),(D,od)]:=by
 obtain ⟨_,ne,es,rfl,_⟩:=x
 refine ⟨λp hp=>?_,?_⟩
 ·rcases aM hp with rfl | hp
  ·exact ⟨(λq=>nomatch q),λq=>nomatch q⟩
  ·rcases aj hp with rfl
   exact ⟨(λq=>nomatch q),λq=>by simp at q⟩
 ·simp [ne]
section
variable {c:Cx} {mg mb:Str→Option Value} {ce:CE} {env:Env} {ρ:Nm} {σ:SS} {s:Shared}
theorem YB {l:List (Addr×Obj)} (PG:aY (cG c.w.params) (KK c.w.params) mg mb c.hG) (rm:Rm c XF) (eo:aG c ρ ce env) {x y:Str} {b:List Stmt} {i ne:Nat} {sv:SV} {e:Addr} (hne:ρ ne=some e)
 (hv:(lx c.w.params).E ce (.Name y (pq b i 2)) σ=some [(sv,σ)]) (ho:(lx c.w.params).E ce (.Name "self" (pq b i 0)) σ=some [(.ref ne,σ)]) (S:c.SR ρ σ s) (xl:XL c ρ σ s l) (pl:Pl l) {Q:Flow→Shared→Prop} {E:Value→Shared→Prop}
 (h:∀ ρ1 s1 vv,Ext ρ ρ1→c.SR ρ1 σ s1→XL c ρ1 σ s1 l→VR c.ν ρ1 sv vv→aT s s1→wpAny c.M c.A (setAttr (.ref e) x vv) (λ_ s2=>Q .next s2) E s1):wpAny c.M c.A (exec (zi b i x y) env) Q E s:=by
 unfold zi
 refine wpAny_Assign_stores (fP PG rm eo hv S xl pl λy1 σ1 ρ1 s1 vv hm x1 S1 xl1 r1 sm1=>?_) rfl rfl
 rcases aj hm with q
 cases q
 show wpAny c.M c.A (holding [vv] (eval (.Name "self" (pq b i 0)) env) >>= λov=>standAt (pq b i 1).atName >>= λ_=>holding [vv,ov] (setAttr ov x vv) >>= λ_=>release [vv,ov] []) _ E s1
 refine aF (cL (fP PG rm (eo.mono x1) ho S1 xl1 pl λy2 σ2 ρ2 s2 ov hm2 x2 S2 xl2 r2 sm2=>?_))
 rcases aj hm2 with q
 cases q
 obtain ⟨e',he',rfl⟩:=r2
 rw [x2 _ _ (x1 _ _ hne)] at he'
 cases he'
 refine aF (wpAny_standAt (aF (cL (bI (h ρ2 s2 vv (x1.trans x2) S2 xl2 (r1.mono x2) (sm1.trans sm2)) (λ_ s3 q=>wpAny_release q) λ_ _ q=>q))))
end
theorem cu.fresh {c:Cx} {ρ:Nm} {σ:SS} {s:Shared} {D:Addr} (S:c.SR ρ σ s) (hD:s.heap.get? D=none):cu c ρ σ D:=by
 refine ⟨λq=>?_,λn so e q=>?_,λo e=>?_⟩
 ·obtain ⟨_,⟨o,_,_,h,_⟩,_⟩:=S.loc
  rw [← q,hD] at h; cases h
 ·obtain ⟨a,o,h1,h2,_⟩:=S.hp n so e
  rw [h1] at q; cases q
  rw [hD] at h2; cases h2
 ·obtain ⟨o2,h⟩:=(S.fzk D o e).at
  rw [hD] at h; cases h
theorem cu.out {c:Cx} {env:Env} {oL:Obj} {C:Addr} {ρ:Nm} {σ:SS} {b:Addr} (h:cu (c.bo env oL C) ρ σ b) {ls:List (Nat×SV)}:cu c ρ ⟨ls,σ.hp,σ.nx⟩ b :=
 let ⟨_,h3,h4⟩:=h; ⟨λq=>h4 (iE oL) (.inr ⟨q,rfl⟩),h3,λo q=>h4 o (.inl q)⟩
theorem SR.named {c:Cx} {ρ:Nm} {σ:SS} {s:Shared} {a:Addr} (S:c.SR ρ σ s):c.SR (bA ρ σ.nx a) ⟨σ.loc,σ.hp,σ.nx+1⟩ s:=by
 have E:=S.ext a
 have old:∀ n so,σ.hp.get n=some so→bA ρ σ.nx a n=ρ n:=λn so e=>by
  obtain ⟨b,o,h1,_⟩:=S.hp n so e
  rw [E n b h1,h1]
 refine ⟨S.fzk,S.fc,S.gk,S.gd,?_,S.Lf,λn so e=>?_,λn n' so so' b e e' r r'=>?_,λn b e=>?_⟩
 ·obtain ⟨m,hm,hv⟩:=S.loc
  exact ⟨m,hm,λx sv e=>let ⟨v,h1,h2⟩:=hv x sv e; ⟨v,h1,h2.mono E⟩⟩
 ·obtain ⟨b,o,h1,h2,h3,h4,h5⟩:=S.hp n so e
  exact ⟨b,o,E _ _ h1,h2,h3.mono E,h4,h5⟩
 ·rw [old n so e] at r
  rw [old n' so' e'] at r'
  exact S.inj n n' so so' b e e' r r'
 ·unfold bA at e
  by_cases q:n=σ.nx
  ·show n<σ.nx+1
   omega
  ·rw [if_neg q] at e
   have:=S.dom n b e
   show n<σ.nx+1
   omega
theorem cu.named {c:Cx} {ρ:Nm} {σ:SS} {s:Shared} {a b:Addr} (S:c.SR ρ σ s) (h:cu c ρ σ b):cu c (bA ρ σ.nx a) ⟨σ.loc,σ.hp,σ.nx+1⟩ b :=
 ⟨h.1,λn so e q=>h.2.1 n so e (by
  obtain ⟨d,o,h1,_⟩:=S.hp n so e
  rw [S.ext a n d h1] at q
  rw [h1]; exact q),h.2.2⟩
theorem SR.back {c:Cx} {env:Env} {oL:Obj} {C:Addr} {ρ ρ':Nm} {σ σ':SS} {s s':Shared} (S':(c.bo env oL C).SR ρ' σ' s') (S:c.SR ρ σ s) (hL:s.heap.get? c.L=some oL) (x:Ext ρ ρ'):c.SR ρ' ⟨σ.loc,σ'.hp,σ'.nx⟩ s' :=
 SR.tC (l:=σ.loc) S' S hL λy sv e=>⟨sv,e,λv h=>h.mono x⟩
noncomputable abbrev DR (T0:Addr):Obj:=d0 none #[.ref T0,.none,.none,.none,.bool false,.none]
theorem SX {e T0:Addr}:Pl [(e,DR T0)]:=by
 refine ⟨λp hp=>?_,by simp⟩
 rcases aj hp with rfl
 exact ⟨(λq=>nomatch q),λq=>nomatch q⟩
section
variable {c:Cx} {mg mb:Str→Option Value} {ρ:Nm} {σ:SS} {s:Shared} {Q E:Value→Shared→Prop}
theorem DS (PG:aY (cG c.w.params) (KK c.w.params) mg mb c.hG) (rm:Rm c (XF+1)) {ne n:Nat} {e t0:Addr} {vt:Value} (S:c.SR ρ σ s) (hne:ρ ne=some e) (hvt:VR c.ν ρ (.str n) vt) (he:s.heap.get? e=some (DR t0)) (fe:cu c ρ σ e)
 (hQ:∀ ρ' s' D T0 od,Ext ρ ρ'→c.SR ρ' σ s'→XE c ρ' σ s' e D T0 od [(1954047348,.str n)]→aT s s'→Q .none s'):wpAny c.M c.A (call (.ref 28) [.ref e,vt]) Q E s:=by
 refine jq PG (by have:=rm.depth; omega) (aAj c.w.params) (vs:=[.ref e,vt]) (ρ:=ρ) (xs:=[.ref ne,.str n]) (σ1:=⟨[(1954047348,.str n),(1718379891,.ref ne)],σ.hp,σ.nx⟩) (cs:=[]) ⟨⟨e,hne,rfl⟩,hvt,trivial⟩ (by nofun) (by nofun) S (l:=[(e,DR t0)]) (λp hp=>by rcases aj hp with rfl; exact ⟨he,fe⟩) SX λenv ρ1 s1 oL C hL eF rmI eo x1 S1 xl1 sm1=>?_
 have rm0:Rm (c.bo env oL C) XF:=rmI _ rm
 rw [SN]
 refine bL (wpAny_Expr_any (QL rfl rfl (SU _) (fP (c:=c.bo env oL C) PG rm0 eo (outs:=[(.ty 8,⟨[(1954047348,.str n),(1718379891,.ref ne)],σ.hp,σ.nx⟩)]) (by nofun) S1 xl1 SX λy σ2 ρ2 s2 ov hm x2 S2 xl2 r2 sm2 pl=>?_)) (by unfold interactive; rw [eo.kind]; rfl) rfl)
 rcases aj hm with q
 cases q
 replace r2:ov=.type "Exception" := r2
 subst r2
 refine X9 (P:=c.w.params) (λb o z=>S2.br _ _ (PG.G.X _ _ z)) ?_
 refine Calls.callWith_builtin rfl (ki (c:=c.bo env oL C) PG rm0 (eo.mono x2) (outs:=[([.ref ne,.str n],⟨[(1954047348,.str n),(1718379891,.ref ne)],σ.hp,σ.nx⟩)]) (by nofun) (S2.toks (s2.toks+1)) xl2 SX λys σ3 ρ3 s3 b hm3 x3 S3 xl3 r3 k3 sm3=>?_)
 rcases aj hm3 with q
 cases q
 obtain ⟨bp,bk⟩:=b
 dsimp only at r3 k3
 subst k3
 match bp,r3 with
 | [v1,v2],⟨⟨e1,h1,h2⟩,h3,_⟩ =>
 have x13:Ext ρ ρ3:=x1.trans (x2.trans x3)
 rw [x13 _ _ hne] at h1
 cases h1
 subst h2
 obtain ⟨hh,g,d,t,os⟩:=s3
 obtain ⟨he3,fe3⟩:=xl3 _ (.head _)
 refine SM (P:=c.w.params) (λb o z=>S3.br _ _ (PG.G.X _ _ z)) he3 (by show 1≤sizeLine; rw [sizeLine_eq]; omega) λh4 k4 ⟨T1,hT⟩=>?_
 have S4:(c.bo env oL C).SR ρ3 ⟨[(1954047348,.str n),(1718379891,.ref ne)],σ.hp,σ.nx⟩ ⟨h4,g,d,t,os⟩:=SR.zf (as:=[]) (xs:=[e]) (t:=t) S3 (λb hb=>nomatch hb) ⟨λb o hb _ n2=>k4 b o (λq=>n2 (List.mem_singleton.mpr q)) hb,λb o hb n1=>nomatch n1⟩ λb hb=>by rcases aj hb with rfl; exact fe3
 refine bL (YB (c:=c.bo env oL C) (l:=[(e,DR T1)]) PG rm0 (eo.mono (x2.trans x3)) (ne:=ne) (sv:=.str n) (x13 _ _ hne) (by nofun) (by nofun) S4 (λp hp=>by rcases aj hp with rfl; exact ⟨hT,fe3⟩) SX λρ5 s5 vv x5 S5 xl5 r5 sm5=>?_)
 obtain ⟨he5,fe5⟩:=xl5 _ (.head _)
 refine Xy (w:=c.w) (ν:=c.ν) (ρ:=ρ5) (sv:=.str n) (λb o z=>S5.br _ _ (PG.G.X _ _ z)) he5 (by nofun) (by nofun) r5 λh6 tk D od k6 hD he6 hD6 ho6=>?_
 refine wpAny_execs_nil ?_
 have S6:(c.bo env oL C).SR ρ5 ⟨[(1954047348,.str n),(1718379891,.ref ne)],σ.hp,σ.nx⟩ { s5 with heap:=h6,toks:=tk }:=SR.zf (as:=[]) (xs:=[e]) (t:=tk) S5 (λb hb=>nomatch hb) ⟨λb o hb _ n2=>k6 b o (λq=>n2 (List.mem_singleton.mpr q)) hb,λb o hb n1=>nomatch n1⟩ λb hb=>by rcases aj hb with rfl; exact fe5
 have hED:e≠D:=λq=>by rw [← q,he5] at hD; cases hD
 have SB:=SR.back S6 S hL (x13.trans x5)
 refine hQ ρ5 _ D T1 od (x13.trans x5) SB ⟨λp hp=>?_,hED,ho6⟩ (sm1.trans (sm2.trans ((aT.mk _ _ _).trans (sm3.trans ((aT.mk _ _ _).trans (sm5.trans (.mk _ _ _)))))))
 rcases aM hp with rfl | hp
 ·exact ⟨he6,fe5.out⟩
 ·rcases aj hp with rfl
  exact ⟨hD6,(cu.fresh S5 hD).out⟩
theorem HR {env:Env} {ce:CE} (PG:aY (cG c.w.params) (KK c.w.params) mg mb c.hG) (rm:Rm c XF) (eo:aG c ρ ce env) {x y:Str} {b:List Stmt} {i ne:Nat} {sv:SV} {e D T0:Addr} {od:Obj} {ses:List (Nat×SV)} (hne:ρ ne=some e)
 (hv:(lx c.w.params).E ce (.Name y (pq b i 2)) σ=some [(sv,σ)]) (ho:(lx c.w.params).E ce (.Name "self" (pq b i 0)) σ=some [(.ref ne,σ)]) (hx:fo x=true) (ht:takerIn (KK c.w.params) 70 x=some none) (hl:Nat.ble ses.length 900=true) (S:c.SR ρ σ s) (xe:XE c ρ σ s e D T0 od ses) {Q:Flow→Shared→Prop} {E:Value→Shared→Prop}
 (h:∀ ρ1 s1 od',Ext ρ ρ1→c.SR ρ1 σ s1→XE c ρ1 σ s1 e D T0 od' (Eg ses (enc x) sv)→aT s s1→Q .next s1):wpAny c.M c.A (exec (zi b i x y) env) Q E s:=by
 refine YB PG rm eo hne hv ho S xe.x xe.pl λρ1 s1 vv x1 S1 xl1 r1 sm1=>?_
 obtain ⟨he,fe⟩:=xl1 _ (.head _)
 obtain ⟨hD,fD⟩:=xl1 _ (.tail _ (.head _))
 refine Xx (w:=c.w) (ν:=c.ν) (ρ:=ρ1) (sv:=sv) (λb o z=>S1.br _ _ (PG.G.X _ _ z)) he hD (xe.o.mono x1) (bK hl) hx ht r1 λh' tk od' hs hD' ho'=>?_
 have S2:c.SR ρ1 σ { s1 with heap:=h',toks:=tk }:=SR.zf (as:=[]) (xs:=[D]) (t:=tk) S1 (λb hb=>nomatch hb) ⟨λb o hb _ n2=>(hs.2 b (λq=>n2 (List.mem_singleton.mpr q))).trans hb,λb o hb n1=>nomatch n1⟩ λb hb=>by rcases aj hb with rfl; exact fD
 refine h ρ1 _ od' x1 S2 ⟨λp hp=>?_,xe.ne,ho'⟩ (sm1.trans (.mk _ _ _))
 rcases aM hp with rfl | hp
 ·exact ⟨(hs.2 e xe.ne).trans he,fe⟩
 ·rcases aj hp with rfl
  exact ⟨hD',fD⟩
noncomputable abbrev SY (n1 n2:Nat):List (Nat×SV):=[(1954047348,.str n2),(1701667182,.str n1),(1685221239,.str n1),(1701734764,.int (.c 0))]
theorem DT (PG:aY (cG c.w.params) (KK c.w.params) mg mb c.hG) (rm:Rm c (XF+2)) {ne n1 n2:Nat} {e t0:Addr} {v1 v2 v3:Value} (S:c.SR ρ σ s) (hne:ρ ne=some e) (hv1:VR c.ν ρ (.str n1) v1) (hv2:VR c.ν ρ (.int (.c 0)) v2) (hv3:VR c.ν ρ (.str n2) v3) (he:s.heap.get? e=some (DR t0)) (fe:cu c ρ σ e)
 (hQ:∀ ρ' s' D T0 od,Ext ρ ρ'→c.SR ρ' σ s'→XE c ρ' σ s' e D T0 od (SY n1 n2)→aT s s'→Q .none s'):wpAny c.M c.A (call (.ref 67) [.ref e,v1,v2,v3]) Q E s:=by
 refine jq PG (by have:=rm.depth; omega) (aAl c.w.params) (vs:=[.ref e,v1,v2,v3]) (ρ:=ρ) (xs:=[.ref ne,.str n1,.int (.c 0),.str n2]) (σ1:=⟨[(1954047348,.str n2),(1701734764,.int (.c 0)),(1701667182,.str n1),(1718379891,.ref ne)],σ.hp,σ.nx⟩) (cs:=[]) ⟨⟨e,hne,rfl⟩,hv1,hv2,hv3,trivial⟩ (by nofun) (by nofun) S (l:=[(e,DR t0)]) (λp hp=>by rcases aj hp with rfl; exact ⟨he,fe⟩) SX λenv ρ1 s1 oL C hL eF rmI eo x1 S1 xl1 sm1=>?_
 have rm1:Rm (c.bo env oL C) (XF+1):=rmI _ rm
 have rm0:Rm (c.bo env oL C) XF:=rm1.le (Nat.le_succ _)
 rw [SQ]
 refine bL (wpAny_Expr_any (QL rfl rfl (SW _) (fP (c:=c.bo env oL C) PG rm0 eo (outs:=[(.kref 31,⟨[(1954047348,.str n2),(1701734764,.int (.c 0)),(1701667182,.str n1),(1718379891,.ref ne)],σ.hp,σ.nx⟩)]) (by nofun) S1 xl1 SX λy σ2 ρ2 s2 ov hm x2 S2 xl2 r2 sm2 pl=>?_)) (by unfold interactive; rw [eo.kind]; rfl) rfl)
 rcases aj hm with q
 cases q
 replace r2:ov=.ref 31:=r2
 subst r2
 refine YA (P:=c.w.params) (λb o z=>S2.br _ _ (PG.G.X _ _ z)) ?_
 refine callWith_of (P:=λh=>(KK c.w.params).In h) rfl (keeps_K (by nofun)) (ki (c:=c.bo env oL C) PG rm0 (eo.mono x2) (outs:=[([.ref ne,.str n2],⟨[(1954047348,.str n2),(1701734764,.int (.c 0)),(1701667182,.str n1),(1718379891,.ref ne)],σ.hp,σ.nx⟩)]) (by nofun) (S2.toks (s2.toks+1)) xl2 SX λys σ3 ρ3 s3 b hm3 x3 S3 xl3 r3 k3 sm3=>⟨λb o z=>S3.br _ _ (PG.G.X _ _ z),?_⟩)
 rcases aj hm3 with q
 cases q
 obtain ⟨bp,bk⟩:=b
 dsimp only at r3 k3
 subst k3
 match bp,r3 with
 | [u1,u2],⟨⟨e1,h1,h2⟩,h3,_⟩ =>
 have x13:Ext ρ ρ3:=x1.trans (x2.trans x3)
 rw [x13 _ _ hne] at h1
 cases h1
 subst h2
 obtain ⟨he3,fe3⟩:=xl3 _ (.head _)
 refine DS (c:=c.bo env oL C) PG rm1 S3 (x13 _ _ hne) h3 he3 fe3 λρ4 s4 D T0 od x4 S4 xe4 sm4=>?_
 have x14:=x13.trans x4
 refine bL (HR (c:=c.bo env oL C) PG rm0 (eo.mono (x2.trans (x3.trans x4))) (sv:=.str n1) (x14 _ _ hne) (by nofun) (by nofun) (by nofun) (by nofun) (by rfl) S4 xe4 λρ5 s5 od5 x5 S5 xe5 sm5=>?_)
 have x15:=x14.trans x5
 refine bL (HR (c:=c.bo env oL C) PG rm0 (eo.mono (x2.trans (x3.trans (x4.trans x5)))) (sv:=.str n1) (x15 _ _ hne) (by nofun) (by nofun) (by nofun) (by nofun) (by rfl) S5 xe5 λρ6 s6 od6 x6 S6 xe6 sm6=>?_)
 have x16:=x15.trans x6
 refine bL (HR (c:=c.bo env oL C) PG rm0 (eo.mono (x2.trans (x3.trans (x4.trans (x5.trans x6))))) (sv:=.int (.c 0)) (x16 _ _ hne) (by nofun) (by nofun) (by nofun) (by nofun) (by rfl) S6 xe6 λρ7 s7 od7 x7 S7 xe7 sm7=>?_)
 have x17:=x16.trans x7
 refine wpAny_execs_nil ?_
 have SB:=SR.back S7 S hL x17
 refine hQ ρ7 _ D T0 od7 x17 SB ⟨λp hp=>⟨(xe7.x p hp).1,(xe7.x p hp).2.out⟩,xe7.ne,?_⟩ (sm1.trans (sm2.trans ((aT.mk _ _ _).trans (sm3.trans (sm4.trans (sm5.trans (sm6.trans sm7)))))))
 have:=xe7.o
 exact this
end
structure ZM (c:Cx) (ρ:Nm) (σ:SS) (s:Shared) (e D:Addr) (T:Option Addr) (n1 n2:Nat):Prop where
 ex:wx s.heap e (some D) T .none
 fe:cu c ρ σ e
 fD:cu c ρ σ D
 fT:∀ t,T=some t→cu c ρ σ t
 ne:e≠D
 nT:∀ t,T=some t→t≠D
 d:∃ od,s.heap.get? D=some od∧OR c.w.params c.ν ρ (.dict (SY n1 n2)) od
section
variable {c:Cx} {mg mb:Str→Option Value} {ρ ρ':Nm} {σ σ':SS} {s s':Shared}
theorem wz {as:List Addr} {b:Addr} (g:∀ b∈as,b=c.L∨((∃ o,c.fz b o∧d7 o)∧c.hG.get? b=none)) (f:cu c ρ σ b):b∉as:=λh=>by
 rcases g b h with q | ⟨⟨o,q,_⟩,_⟩
 ·exact f.1 q
 ·exact f.2.2 o q
theorem Bj {env:Env} {oL:Obj} {C:Addr} (stk:dI c) (stkI:dI (c.bo env oL C)) (eF:env.frame=some C) (S':(c.bo env oL C).SR ρ' σ' s') (S:c.SR ρ σ s) (hL:s.heap.get? c.L=some oL) (x:Ext ρ ρ') {e D:Addr} {T:Option Addr} {n1 n2:Nat} (f:ZM (c.bo env oL C) ρ' σ' s' e D T n1 n2) {Q:Unit→Shared→Prop} {E:Value→Shared→Prop}
 (hQ:∀ s'' T',c.SR ρ' ⟨σ.loc,σ'.hp,σ'.nx⟩ s''→ZM c ρ' ⟨σ.loc,σ'.hp,σ'.nx⟩ s'' e D (some T') n1 n2→aT s' s''→Q () s''):wpAny c.M (c.A.deeper env) (leaving env (.ref e)) Q E s':=by
 obtain ⟨l,h1,_⟩:=stk
 obtain ⟨l',g1,g2,g3⟩:=stkI.all
 have hfr:(c.A.deeper env).frames=some (env::l):=PySem.Around.frames_deeper h1
 have e1:l'=env::l:=aD (g1.symm.trans hfr)
 subst e1
 refine leaveX (outer:=l) hfr (g3 S') eF f.ex λh' T' y1 y2 y3=>?_
 have hx:∀ b∈e::T.toList,cu (c.bo env oL C) ρ' σ' b:=λb hb=>by
  rcases aM hb with rfl | hb
  ·exact f.fe
  ·exact f.fT b (by cases T with | none=>cases hb | some t=>rcases aj hb with rfl; rfl)
 have S2:(c.bo env oL C).SR ρ' σ' { s' with heap:=h',toks:=s'.toks }:=SR.zf S' g2 y3 hx
 obtain ⟨od,hD,ho⟩:=f.d
 have hDx:D∉e::T.toList:=λhb=>by
  rcases aM hb with q | hb
  ·exact f.ne q.symm
  ·exact f.nT D (by cases T with | none=>cases hb | some t=>rcases aj hb with rfl; rfl) rfl
 have hD2:=y3.oth D od hD (wz g2 f.fD) hDx
 have SB:=SR.back S2 S hL x
 refine hQ _ T' SB ⟨y1,f.fe.out,f.fD.out,λt q=>by cases q; exact (cu.fresh S' y2).out,f.ne,λt q w=>?_,od,hD2,ho⟩ (.mk _ _ _)
 cases q
 rw [w,hD] at y2; cases y2
theorem Sa {M:Model} {A:Around} {E:Value→Shared→Prop} {env:Env} {x:Sem Value} {P:Params} {Q:Flow→Shared→Prop} (hh:A.handled=none)
 (h:wpAny M A x (λv s₁=>∃ e oe vs,v=.ref e∧(KK P).In s₁.heap∧s₁.heap.get? e=some oe∧oe.cls=.ref 70∧oe.data=.fields vs∧vs[1]?=some .none∧E (.ref e) s₁) E s) :
 wpAny M A (raiseStmt env (some x) none) Q E s:=by
 have hcB:(Value.ref 70::iw).contains (.type "BaseException")=true:=by decide +kernel
 unfold raiseStmt
 refine aF (bI h (λv s₁ h₁=>?_) λ_ _ x=>x)
 obtain ⟨e,oe,vs,rfl,X,he,hcls,hd,h1,hE⟩:=h₁
 have hC:=kh X
 obtain ⟨hp,g,d,tk,os⟩:=s₁
 repeat (first | (with_reducible refine wpAny_loadPart_at he ?_; rw [hcls]) | with_reducible refine wpAny_loadPart_at hC ?_ | (with_reducible refine wpAny_isSubtype_exc hC ?_; rw [hcB]) | wp_step)
 rw [hd]
 refine aP ?_
 rw [h1]
 refine aP ?_
 rw [if_neg (by decide)]
 exact aP (wpAny_raiseNew_none hh hE)
noncomputable def raC:Stmt→Expr×List Expr×Pos×Pos
 | .Raise (some (.Call f a _ p)) _ q=>(f,a,p,q)
 | _=>(.Constant .none 0 default,[],default,default)
def ra (P:Params):Expr×List Expr×Pos×Pos:=raC ((HQ P).body.getD 0 (.Pass default))
theorem KQ (P:Params):(HQ P).body=[.Raise (some (.Call (ra P).1 (ra P).2.1 [] (ra P).2.2.1)) none (ra P).2.2.2]:=by nofun
theorem YC (P:Params):bO (ra P).2.1=true∧notAttr (ra P).1=true:=⟨by nofun,by nofun⟩
noncomputable abbrev QM:Nat:=152110657728856502070430284606056853347
theorem DU {Q E:Value→Shared→Prop} (PG:aY (cG c.w.params) (KK c.w.params) mg mb c.hG) (rm:Rm c (XF+5)) {n:Nat} {vt:Value} (S:c.SR ρ σ s) (hvt:VR c.ν ρ (.str n) vt)
 (hE:∀ ρ' s' e D T',Ext ρ ρ'→c.SR ρ' ⟨σ.loc,σ.hp,σ.nx+1⟩ s'→ZM c ρ' ⟨σ.loc,σ.hp,σ.nx+1⟩ s' e D (some T') QM n→aT s s'→E (.ref e) s'):wpAny c.M c.A (call (.ref 508) [vt]) Q E s:=by
 refine jq PG (by have:=rm.depth; omega) (QK c.w.params) (vs:=[vt]) (ρ:=ρ) (xs:=[.str n]) (σ1:=⟨[(1954047348,.str n)],σ.hp,σ.nx⟩) (cs:=[]) ⟨hvt,trivial⟩ (by nofun) (by nofun) S (l:=[]) (λp hp=>nomatch hp) ⟨λp hp=>(nomatch hp),.nil⟩ λenv ρ1 s1 oL C hL eF rmI eo x1 S1 _ sm1=>?_
 have rm4:Rm (c.bo env oL C) (XF+4):=rmI _ rm
 have rm0:Rm (c.bo env oL C) XF:=rm4.le (by omega)
 rw [KQ]
 refine bL ?_
 rw [arm_exec_Raise]
 refine aF (wpAny_standAt (Sa (P:=c.w.params) rm4.hh (aF ?_)))
 rw [jT (YC _).2]
 refine aF (fP (c:=c.bo env oL C) (l:=[]) PG rm0 eo (outs:=[(.kref 70,⟨[(1954047348,.str n)],σ.hp,σ.nx⟩)]) (by nofun) S1 (λp hp=>nomatch hp) ⟨λp hp=>(nomatch hp),.nil⟩ λy σ2 ρ2 s2 ov hm x2 S2 _ r2 sm2=>?_)
 rcases aj hm with q
 cases q
 replace r2:ov=.ref 70:=r2
 subst r2
 have hp:=dp (env:=env) (p:=(ra c.w.params).2.2.1) (YC c.w.params).1
 refine callWith_of (P:=λh=>(KK c.w.params).In h) (by rw [hp]; rfl) (keeps_K (by nofun)) (ki (c:=c.bo env oL C) (l:=[]) PG rm0 (eo.mono x2) (outs:=[([.str QM,.int (.c 0),.str n],⟨[(1954047348,.str n)],σ.hp,σ.nx⟩)]) (by nofun) S2 (λp hp=>nomatch hp) ⟨λp hp=>(nomatch hp),.nil⟩ λys σ3 ρ3 s3 b hm3 x3 S3 _ r3 k3 sm3=>⟨λb o z=>S3.br _ _ (PG.G.X _ _ z),?_⟩)
 rcases aj hm3 with q
 cases q
 obtain ⟨bp,bk⟩:=b
 dsimp only at r3 k3
 subst k3
 match bp,r3 with
 | [u1,u2,u3],⟨h1,h2,h3,_⟩ =>
 have x13:Ext ρ ρ3:=x1.trans (x2.trans x3)
 obtain ⟨hh,g,d,t,os⟩:=s3
 refine SK (P:=c.w.params) (rest:=[u1,u2,u3]) (λb o z=>S3.br _ _ (PG.G.X _ _ z)) (λh4 e hm4=>?_) (by show 3≤sizeLine; rw [sizeLine_eq]; omega)
 obtain ⟨t0,ht0,_⟩:=hm4.there
 let c2:Cx:={ c.bo env oL C with A:=(c.bo env oL C).A.under (.builtin "type.__call__" ⟨.ref 70::[u1,u2,u3],[]⟩) }
 have rm2:Rm c2 (XF+2):=⟨rm4.stk.same (c':=c2) rfl rfl rfl rfl,rm4.hh,by show c.A.depth+1+1+4 * (XF+2)+44<_; have:c.A.depth+1+4 * (XF+4)+44<_:=rm4.depth; omega,by show c.A.units+3+1+60 * (XF+2)+660<_; have:c.A.units+3+60 * (XF+4)+660<_:=rm4.units; omega⟩
 have S4:c2.SR (bA ρ3 σ.nx e) ⟨[(1954047348,.str n)],σ.hp,σ.nx+1⟩ ⟨h4,g,d,t,os⟩:=SR.named (c:=c2) (SR.grow (t:=t) S3 hm4.keeps)
 have xn:Ext ρ3 (bA ρ3 σ.nx e):=SR.ext S3 e
 have fe4:cu c2 (bA ρ3 σ.nx e) ⟨[(1954047348,.str n)],σ.hp,σ.nx+1⟩ e:=cu.named (c:=c2) (σ:=⟨[(1954047348,.str n)],σ.hp,σ.nx⟩) S3 (cu.fresh (c:=c2) S3 hm4.new)
 refine DT (c:=c2) PG rm2 (ne:=σ.nx) S4 (by simp [bA]) (h1.mono xn) (h2.mono xn) (h3.mono xn) ht0 fe4 λρ5 s5 D T0 od x5 S5 xe5 sm5=>⟨rfl,?_⟩
 obtain ⟨he5,fe5⟩:=xe5.x _ (.head _)
 obtain ⟨hD5,fD5⟩:=xe5.x _ (.tail _ (.head _))
 have S5':(c.bo env oL C).SR ρ5 ⟨[(1954047348,.str n)],σ.hp,σ.nx+1⟩ s5:=S5
 refine aF (wpAny_standAt (aP ⟨e,_,_,rfl,λb o z=>S5'.br _ _ (PG.G.X _ _ z),he5,rfl,rfl,rfl,?_⟩))
 have x15:Ext ρ ρ5:=x13.trans (xn.trans x5)
 refine Bj rm.stk rm4.stk eF S5' S hL x15 (T:=none) (n1:=QM) (n2:=n) ⟨⟨_,_,he5,rfl,rfl,rfl,(by show 1<6; omega),rfl⟩,fe5,fD5,(λt q=>nomatch q),xe5.ne,(λt q=>nomatch q),od,hD5,xe5.o⟩ λs6 T' S6 f6 sm6=>?_
 exact hE ρ5 s6 e D T' x15 S6 f6 (sm1.trans (sm2.trans (sm3.trans ((aT.mk _ _ _).trans (sm5.trans sm6)))))
end
def pL {α:Type} (o:Option (List (α×SS))):Option (α×SS):=ob o λl=>List.rec (motive:=λ_=>Option (α×SS)) none (λp r _=>List.rec (motive:=λ_=>Option (α×SS)) (some p) (λ_ _ _=>none) r) l
theorem m7 {α:Type} {o:Option (List (α×SS))} {p:α×SS} (h:pL o=some p):o=some [p]:=by
 refine aS h λl e h=>e.trans (congrArg some ?_)
 cases l with
 | nil=>exact nS h
 | cons q r =>
  cases r with
  | nil=>rw [← aD h]
  | cons _ _=>exact nS h
def caE (e:Expr):Option (Expr×List Expr):=match e with
 | .Call f args kw _=>List.rec (motive:=λ_=>Option (Expr×List Expr)) (some (f,args)) (λ_ _ _=>none) kw
 | _=>none
theorem HS {e:Expr} {q:Expr×List Expr} (h:caE e=some q):∃ p,e=.Call q.1 q.2 [] p:=by
 cases e with
 | Call f args kw p =>
  cases kw with
  | nil=>exact ⟨p,by rw [← aD h]⟩
  | cons _ _=>exact nS h
 | _=>exact nS h
def Bk (fns:List (Nat×bf)) (lo:Lo) (cx:Nat→List SV→SS→Option SS) (ce:CE) (e:Expr) (σ:SS):Option SS:=ob (caE e) λq=>cond (bO q.2&&notAttr q.1)
 (ob (pL (lo.E ce q.1 σ)) λv=>Ts v.1 (λa=>ob (pL (qF lo ce q.2 v.2)) λx=>cx a x.1 x.2) none) none
def YD (fns:List (Nat×bf)) (lo:Lo) (cx:Nat→List SV→SS→Option SS) (ce:CE) (e:Expr) (σ:SS):Option SS:=ob (caE e) λq=>ob (two q.2) λa=>cond (bO [a.1,a.2]&&notAttr q.1)
 (ob (pL (lo.E ce q.1 σ)) λv=>Ts v.1 (λf=>ob (lk fns f) λ_=>ob (pL (lo.E ce a.1 v.2)) λy=>Bk fns lo cx ce a.2 y.2) none) none
def xE (fns:List (Nat×bf)) (lo:Lo) (cx:Nat→List SV→SS→Option SS) (ce:CE) (e:Expr) (σ:SS):Option SS:=iX (Bk fns lo cx ce e σ) some (YD fns lo cx ce e σ)
def xDf (lo:Lo) (ce:CE) (go:List Stmt→SS→Option SS) (s:Stmt) (r:List Stmt) (σ:SS):Option SS:=ob (pL (lo.S ce s σ)) λq=>FL.rec (motive:=λ_=>Option SS) (go r q.2) none (λ_=>none) q.1
def xIf (lo:Lo) (ce:CE) (go:List Stmt→SS→Option SS) (t:Expr) (b e:List Stmt) (r:List Stmt) (σ:SS):Option SS:=ob (pL (lo.B ce t σ)) λq=>Bool.rec (motive:=λ_=>Option SS) (List.rec (motive:=λ_=>Option SS) (go r q.2) (λe es _=>go (e::es) q.2) e) (go b q.2) q.1
def xSt (fns:List (Nat×bf)) (lo:Lo) (cx:Nat→List SV→SS→Option SS) (ce:CE) (go:List Stmt→SS→Option SS) (s:Stmt) (r:List Stmt) (σ:SS):Option SS:=match s with
 | .If t b e _=>xIf lo ce go t b e r σ
 | .Expr e _=>cond (kR e) none (xE fns lo cx ce e σ)
 | .Return o p=>iX o (λe=>xE fns lo cx ce e σ) (xDf lo ce go (.Return o p) r σ)
 | s=>xDf lo ce go s r σ
def YE (fns:List (Nat×bf)) (lo:Lo) (cx:Nat→List SV→SS→Option SS) (ce:CE) (k:Nat):List Stmt→SS→Option SS:=Nat.rec (motive:=λ_=>List Stmt→SS→Option SS) (λ_ _=>none)
 (λ_ ih ss σ=>List.rec (motive:=λ_=>Option SS) none (λs r _=>xSt fns lo cx ce ih s r σ) ss) k
def ZN (xs:List SV) (σ:SS):Option SS:=List.rec (motive:=λ_=>Option SS) none (λv r _=>List.rec (motive:=λ_=>Option SS) (Ac v (λ_=>some ⟨σ.loc,σ.hp,σ.nx+1⟩) none) (λ_ _ _=>none) r) xs
def xFn (fns:List (Nat×bf)) (lo:Lo) (j:Nat):Nat→List SV→SS→Option SS:=Nat.rec (motive:=λ_=>Nat→List SV→SS→Option SS) (λa xs σ=>cond (Nat.beq a 508) (ZN xs σ) none)
 (λ_ ih a xs σ=>cond (Nat.beq a 508) (ZN xs σ) (ob (lk fns a) λd=>cond (Nat.beq xs.length d.params.length) (ob (cJ (cS d.nm d.params xs []) d.cl { σ with loc:=a7 d.nm d.params xs [] } []) λq =>
  ob (YE fns lo ih ⟨d.nm,q.2⟩ 20 d.body q.1) λσ'=>some ⟨σ.loc,σ'.hp,σ'.nx⟩) none)) j
noncomputable def mR (c:Cx) (ρ:Nm) (s:Shared) (σ':SS) (E:Value→Shared→Prop):Prop:=∀ ρ' s' e D T' n2,Ext ρ ρ'→c.SR ρ' σ' s'→ZM c ρ' σ' s' e D (some T') QM n2→aT s s'→E (.ref e) s'
theorem mR.from {c:Cx} {ρ ρ1:Nm} {s s1:Shared} {σ':SS} {E:Value→Shared→Prop} (h:mR c ρ s σ' E) (x:Ext ρ ρ1) (sm:aT s s1):mR c ρ1 s1 σ' E:=λρ' s' e D T' n2 x' S' f sm'=>h ρ' s' e D T' n2 (x.trans x') S' f (sm.trans sm')
noncomputable def CX1 (c:Cx) (a:Nat) (xs:List SV) (σ σ':SS):Prop:=keepIn (KK c.w.params) (.ref a)=true∧∀ ρ s vs,bX c.ν ρ xs vs→c.SR ρ σ s→∀ (Q E:Value→Shared→Prop),mR c ρ s σ' E→wpAny c.M c.A (call (.ref a) vs) Q E s
noncomputable def HT (hG:Heap) (mg mb:Str→Option Value) (m:Nat) (cx:Nat→List SV→SS→Option SS):Prop:=∀ (c:Cx),c.hG=hG→c.w.params=P→Rm c m→∀ a xs σ σ',cx a xs σ=some σ'→CX1 c a xs σ σ'
section
variable {c:Cx} {mg mb:Str→Option Value} {ce:CE} {env:Env} {ρ:Nm} {σ σ1 σ':SS} {s:Shared} {cx:Nat→List SV→SS→Option SS} {m:Nat}
theorem Sb (PG:aY (cG c.w.params) (KK c.w.params) mg mb c.hG) (rm:Rm c XF) (eo:aG c ρ ce env) {e:Expr} {y:SV} (h:pL ((lx c.w.params).E ce e σ)=some (y,σ1)) (S:c.SR ρ σ s) {Q E:Value→Shared→Prop}
 (hQ:∀ ρ1 s1 v,Ext ρ ρ1→c.SR ρ1 σ1 s1→VR c.ν ρ1 y v→aT s s1→Q v s1):wpAny c.M c.A (eval e env) Q E s :=
 (cP ⟨c.prog,c.w,c.ν,c.hG⟩ PG rfl XF).E c ρ ce env e ⟨rfl,rfl,rfl,rfl⟩ rm eo σ _ (m7 h) ρ s (.refl _) S Q E λy1 σ2 ρ1 s1 v hm x1 S1 r1 sm1=>by
  rcases aj hm with q
  cases q
  exact hQ ρ1 s1 v x1 S1 r1 sm1
theorem aAq (PG:aY (cG c.w.params) (KK c.w.params) mg mb c.hG) (rm:Rm c XF) (eo:aG c ρ ce env) {e:Expr} {y:Bool} (h:pL ((lx c.w.params).B ce e σ)=some (y,σ1)) (S:c.SR ρ σ s) {Q:Bool→Shared→Prop} {E:Value→Shared→Prop}
 (hQ:∀ ρ1 s1,Ext ρ ρ1→c.SR ρ1 σ1 s1→aT s s1→Q y s1):wpAny c.M c.A (isTrue e env (eval e env)) Q E s :=
 (cP ⟨c.prog,c.w,c.ν,c.hG⟩ PG rfl XF).B c ρ ce env e ⟨rfl,rfl,rfl,rfl⟩ rm eo σ _ (m7 h) ρ s (.refl _) S Q E λy1 σ2 ρ1 s1 v hm x1 S1 r1 sm1=>by
  rcases aj hm with q
  cases q
  subst r1
  exact hQ ρ1 s1 x1 S1 sm1
theorem aAr (PG:aY (cG c.w.params) (KK c.w.params) mg mb c.hG) (rm:Rm c XF) (eo:aG c ρ ce env) {e:Stmt} (h:pL ((lx c.w.params).S ce e σ)=some (.next,σ1)) (S:c.SR ρ σ s) {Q:Flow→Shared→Prop} {E:Value→Shared→Prop}
 (hQ:∀ ρ1 s1,Ext ρ ρ1→c.SR ρ1 σ1 s1→aT s s1→Q .next s1):wpAny c.M c.A (exec e env) Q E s :=
 (cP ⟨c.prog,c.w,c.ν,c.hG⟩ PG rfl XF).S c ρ ce env e ⟨rfl,rfl,rfl,rfl⟩ rm eo σ _ (m7 h) ρ s (.refl _) S Q E λy1 σ2 ρ1 s1 v hm x1 S1 r1 sm1=>by
  rcases aj hm with q
  cases q
  replace r1:v=Flow.next:=r1
  subst r1
  exact hQ ρ1 s1 x1 S1 sm1
theorem aAs (PG:aY (cG c.w.params) (KK c.w.params) mg mb c.hG) (rm:Rm c XF) (eo:aG c ρ ce env) {f:Value} {args:List Expr} {p:Pos} {xs:List SV} (h:pL (qF (lx c.w.params) ce args σ)=some (xs,σ1)) (S:c.SR ρ σ s) {Q:Args→Shared→Prop} {E:Value→Shared→Prop}
 (hQ:∀ ρ1 s1 vs,Ext ρ ρ1→c.SR ρ1 σ1 s1→bX c.ν ρ1 xs vs→aT s s1→Q ⟨vs,[]⟩ s1):wpAny c.M c.A (evalArgs f true (backTo p (starEach args env)) []) Q E s :=
 gM (cP ⟨c.prog,c.w,c.ν,c.hG⟩ PG rfl XF) ⟨rfl,rfl,rfl,rfl⟩ rm args eo σ _ (m7 h) ρ s (.refl _) S Q E λys σ2 ρ1 s1 b hm x1 S1 r1 sm1=>by
  rcases aj hm with q
  cases q
  obtain ⟨bp,bk⟩:=b
  obtain ⟨r1,k1⟩:=r1
  dsimp only at r1 k1
  subst k1
  exact hQ ρ1 s1 bp x1 S1 r1 sm1
theorem pM (PG:aY (cG c.w.params) (KK c.w.params) mg mb c.hG) (rm:Rm c XF) (hm:Rm c m) (ok:HT c.w.params c.hG mg mb m cx) (eo:aG c ρ ce env) {e:Expr} (h:Bk (iZ c.w.params) (lx c.w.params) cx ce e σ=some σ') (S:c.SR ρ σ s) {Q E:Value→Shared→Prop} (hE:mR c ρ s σ' E) :
 wpAny c.M c.A (eval e env) Q E s:=by
 refine aS h λq e1 h=>aw h λz h=>dW z λz1 z2=>aS h λv h1 h5=>?_
 obtain ⟨p,rfl⟩:=HS e1
 revert h5
 refine Ad (p:=λo=>o=some σ'→wpAny c.M c.A (eval (.Call q.1 q.2 [] p) env) Q E s) (λa ev h=>aS h λx h2 h=>?_) λh=>nS h
 obtain ⟨kp,hk⟩:=ok c rfl rfl hm a x.1 x.2 σ' h
 rw [jT z2]
 refine aF (Sb PG rm eo h1 S λρ1 s1 u x1 S1 r1 sm1=>?_)
 rw [ev] at r1
 rw [show u=_ from r1]
 refine callWith_of (P:=λh=>(KK c.w.params).In h) (by rw [dp z1]; rfl) (keeps_K kp) (aAs PG rm (eo.mono x1) h2 S1 λρ2 s2 vs x2 S2 r2 sm2=>⟨λb o z=>S2.br _ _ (PG.G.X _ _ z),?_⟩)
 exact hk ρ2 s2 vs r2 S2 _ _ (hE.from (x1.trans x2) (sm1.trans sm2))
theorem KR (PG:aY (cG c.w.params) (KK c.w.params) mg mb c.hG) (rm:Rm c XF) (hm:Rm c m) (ok:HT c.w.params c.hG mg mb m cx) (eo:aG c ρ ce env) {e:Expr} (h:YD (iZ c.w.params) (lx c.w.params) cx ce e σ=some σ') (S:c.SR ρ σ s) {Q E:Value→Shared→Prop} (hE:mR c ρ s σ' E) :
 wpAny c.M c.A (eval e env) Q E s:=by
 refine aS h λq e1 h=>aS h λb e2 h=>aw h λz h=>dW z λz1 z2=>aS h λv h1 h5=>?_
 obtain ⟨p,rfl⟩:=HS e1
 revert h5
 refine Ad (p:=λo=>o=some σ'→wpAny c.M c.A (eval (.Call q.1 q.2 [] p) env) Q E s) (λa ev h=>aS h λd w h=>aS h λy h2 h=>?_) λh=>nS h
 rw [sV e2]
 refine fE z1 λn0 z1=>fE z1 λn1 _=>?_
 have MG:backTo p (starEach [b.1,b.2] env)=[(false,eval b.1 env),(false,eval b.2 env)]:=by rw [bT n0,bT n1]; rfl
 rw [jT z2,MG]
 refine aF (Sb PG rm eo h1 S λρ1 s1 u x1 S1 r1 sm1=>?_)
 rw [ev] at r1
 rw [show u=_ from r1]
 refine callWith_of (P:=λh=>(KK c.w.params).In h) rfl (keeps_K (PG.fns a d w).kp) (Calls.evalArgs_plain (Calls.spliced_cons (Sb PG rm (eo.mono x1) h2 S1 λρ2 s2 v2 x2 S2 r2 sm2=>Calls.spliced_cons ?_)))
 exact pM PG rm hm ok ((eo.mono x1).mono x2) h S2 (hE.from (x1.trans x2) (sm1.trans sm2))
theorem QN (PG:aY (cG c.w.params) (KK c.w.params) mg mb c.hG) (rm:Rm c XF) (hm:Rm c m) (ok:HT c.w.params c.hG mg mb m cx) (eo:aG c ρ ce env) {e:Expr} (h:xE (iZ c.w.params) (lx c.w.params) cx ce e σ=some σ') (S:c.SR ρ σ s) {Q E:Value→Shared→Prop} (hE:mR c ρ s σ' E) :
 wpAny c.M c.A (eval e env) Q E s:=by
 revert h
 exact eM (p:=λo=>o=some σ'→wpAny c.M c.A (eval e env) Q E s) (λσ2 q h=>pM PG rm hm ok eo (q.trans h) S hE) λh=>KR PG rm hm ok eo h S hE
end
theorem Sd {c:Cx} {mg mb:Str→Option Value} {ce:CE} {env:Env} {cx:Nat→List SV→SS→Option SS} {m:Nat} (PG:aY (cG c.w.params) (KK c.w.params) mg mb c.hG) (rm:Rm c XF) (hm:Rm c m) (ok:HT c.w.params c.hG mg mb m cx):∀ (k:Nat) (ss:List Stmt) (σ σ':SS) (ρ:Nm) (s:Shared),
 YE (iZ c.w.params) (lx c.w.params) cx ce k ss σ=some σ'→aG c ρ ce env→c.SR ρ σ s→∀ {Q:Flow→Shared→Prop} {E:Value→Shared→Prop},mR c ρ s σ' E→wpAny c.M c.A (execs ss env) Q E s:=by
 intro k
 induction k with
 | zero=>intro ss σ σ' ρ s h; exact nS h
 | succ k ih =>
  intro ss σ σ' ρ s h eo S Q E hE
  cases ss with
  | nil=>exact nS h
  | cons st r =>
  replace h:xSt (iZ c.w.params) (lx c.w.params) cx ce (YE (iZ c.w.params) (lx c.w.params) cx ce k) st r σ=some σ':=h
  have df:∀ st,xDf (lx c.w.params) ce (YE (iZ c.w.params) (lx c.w.params) cx ce k) st r σ=some σ'→wpAny c.M c.A (execs (st::r) env) Q E s:=λst h=>aS h λq h1 h=>by
   obtain ⟨f,σ1⟩:=q
   cases f with
   | next=>exact bL (aAr PG rm eo h1 S λρ1 s1 x1 S1 sm1=>ih r σ1 σ' ρ1 s1 h (eo.mono x1) S1 (hE.from x1 sm1))
   | cont=>exact nS h
   | ret _=>exact nS h
  cases st with
  | If t b e p =>
   refine aS h λq h1 h=>bL (wpAny_If (aAq PG rm eo h1 S λρ1 s1 x1 S1 sm1=>?_))
   obtain ⟨bb,σ1⟩:=q
   cases bb with
   | true=>exact ih b σ1 σ' ρ1 s1 h (eo.mono x1) S1 (hE.from x1 sm1)
   | false =>
    rw [if_neg Bool.false_ne_true]
    cases e with
    | nil=>exact wpAny_execs_nil (ih r σ1 σ' ρ1 s1 h (eo.mono x1) S1 (hE.from x1 sm1))
    | cons e es=>exact ih (e::es) σ1 σ' ρ1 s1 h (eo.mono x1) S1 (hE.from x1 sm1)
  | Expr e p =>
   refine iN (b:=kR e) h λz h=>bL (wpAny_Expr_any (QN PG rm hm ok eo h S hE) (by unfold interactive; rw [eo.kind]; rfl) ?_)
   cases e<;>first | rfl | exact absurd z.symm Bool.false_ne_true
  | Return o p =>
   cases o with
   | some e=>exact bL (wpAny_Return_some (QN PG rm hm ok eo h S hE))
   | none=>exact df _ h
  | _=>exact df _ h
theorem HU {c:Cx} {mg mb:Str→Option Value} (PG:aY (cG c.w.params) (KK c.w.params) mg mb c.hG) (rm:Rm c (XF+5)) {xs:List SV} {σ σ':SS} (h:ZN xs σ=some σ'):CX1 c 508 xs σ σ':=by
 refine ⟨(QK c.w.params).kp,λρ s vs hv S Q E hE=>?_⟩
 cases xs with
 | nil=>exact nS h
 | cons x r =>
  cases r with
  | cons _ _=>exact nS h
  | nil =>
   revert h
   refine fp (p:=λo=>o=some σ'→wpAny c.M c.A (call (.ref 508) vs) Q E s) (λn ex h=>hv.un λv t h1 h2=>h2.nl ?_) λh=>nS h
   rw [ex] at h1
   rw [← aD h] at hE
   exact DU PG rm S h1 λρ' s' e D T' x' S' f sm=>hE ρ' s' e D T' n x' S' f sm
theorem Se {P:Params} {hG:Heap} {mg mb:Str→Option Value} (PG:aY (cG P) (KK P) mg mb hG):∀ j,HT P hG mg mb (XF+5+j) (xFn (iZ P) (lx P) j):=by
 intro j
 induction j with
 | zero =>
  intro c hg hw rm a xs σ σ' h
  subst hg hw
  refine aw h λz h=>?_
  rw [ar z]
  exact HU PG rm h
 | succ j ih =>
  intro c hg hw rm a xs σ σ' h
  subst hg hw
  replace h:cond (Nat.beq a 508) (ZN xs σ) (ob (lk (iZ c.w.params) a) λd=>cond (Nat.beq xs.length d.params.length) (ob (cJ (cS d.nm d.params xs []) d.cl { σ with loc:=a7 d.nm d.params xs [] } []) λq =>
   ob (YE (iZ c.w.params) (lx c.w.params) (xFn (iZ c.w.params) (lx c.w.params) j) ⟨d.nm,q.2⟩ 20 d.body q.1) λσ'=>some ⟨σ.loc,σ'.hp,σ'.nx⟩) none)=some σ':=h
  cases z:Nat.beq a 508 with
  | true =>
   rw [z] at h
   rw [ar z]
   exact HU PG (rm.le (Nat.le_add_right _ _)) h
  | false =>
   rw [z] at h
   refine aS h λd hd h=>aw h λz0 h=>aS h λq hpc h=>aS h λσ2 h2 h=>?_
   have F:=PG.fns a d hd
   refine ⟨F.kp,λρ s vs hv S Q E hE=>?_⟩
   rw [← aD h] at hE
   refine jq PG (by have:=rm.depth; omega) F hv z0 hpc S (l:=[]) (λp hp=>nomatch hp) ⟨λp hp=>(nomatch hp),.nil⟩ λenv ρ1 s1 oL C hL eF rmI eo x1 S1 _ sm1=>?_
   have rm1:Rm (c.bo env oL C) (XF+5+j):=rmI _ rm
   refine Sd (c:=c.bo env oL C) PG (rm1.le (Nat.le_trans (Nat.le_add_right _ _) (Nat.le_add_right _ _))) rm1 ih 20 d.body q.1 σ2 ρ1 s1 h2 eo S1 λρ' s' e D T' n2 x' S' f sm=>?_
   exact Bj rm.stk rm1.stk eF S' S hL (x1.trans x') f λs6 T6 S6 f6 sm6=>hE ρ' s6 e D T6 n2 (x1.trans x') S6 f6 (sm1.trans (sm.trans sm6))
end Mine
end
noncomputable section
open PySem PySem.W PyProof.Rows PySem.Calls PySem.SeqAt Builtin Builtin.ObjectAttr
namespace Mine
variable (P:Params)
section
variable {P:Params} {M:Model} {prog:Program} {w:World} {A:Around} {E:Value→Shared→Prop} {s:Shared}
theorem DV {h:Heap} {g:Array GenState} {d:Drawn} {t:Nat} {os:OsState} {e:Addr} {oe:Obj} {nameV:Value} {Q:Unit→Shared→Prop} (hC:h.get? 70=some pK) (he:h.get? e=some oe) (hc:oe.cls=.ref 70) (hq:Q () ⟨h,g,d,t,os⟩) :
 wpAny M A (checkBuiltinCall "BaseException.__getattribute__" ⟨[.ref e,nameV],[]⟩) Q E ⟨h,g,d,t,os⟩:=by
 have hk:builtinKind "BaseException.__getattribute__" = some .slot:=by decide +kernel
 have hsplit:splitId "BaseException.__getattribute__" = some ("BaseException","__getattribute__"):=by decide +kernel
 have hcB:(Value.ref 70::iw).contains (.type "BaseException")=true:=by decide +kernel
 have ha:=F.args_bexc_ga (.ref e) nameV
 simp only [checkBuiltinCall,hk,hsplit]
 refine aF ?_
 ·unfold isInstance
  repeat (first | (with_reducible refine wpAny_loadPart_at he ?_; rw [hc]) | (with_reducible refine wpAny_isSubtype_exc hC ?_; rw [hcB]) | wp_step)
  exact hq
theorem KS {e:Addr} {ox od:Obj} {v:Value} {expr:Bool} {Q:Value→Shared→Prop} (X:(KK P).In s.heap) (I:InstAt s.heap e ox 70 (some od)) (hl:lookIn "word" od=some (some v)) (hh:handedIn v=true) (h:Q v { s with toks:=s.toks+1 }) :
 wpAny (model prog w) A (getAttr (.ref e) "word" expr) Q E s:=by
 have FX:=PySem.F.attr_Exception
 have L0:=I.type (M:=model prog w)
 have hga:findIn (KK P) (.ref 70) "__getattribute__" = some (some (.builtin "BaseException.__getattribute__")):=by nofun
 have hgt:findIn (KK P) (.ref 70) "__getattr__" = some none:=by nofun
 have hf:findObj (KK P) 70 (some od) "word" = some (.value v):=findObj_own (attr:=none) (by nofun) (by nofun) (by nofun) hl
 refine aF (wpAny_mkText (cL (aF (L0 _ _ _ _ (λ_ _ e=>e) (aF (looks_findIn X hga _ _ _ _ (λ_ _ e=>e) ?_))))))
 dsimp only
 rw [show (onTheHeap (Value.ref 70)&&Value.builtin "BaseException.__getattribute__" == Value.builtin "object.__getattribute__")=false from by rw [show (Value.builtin "BaseException.__getattribute__" == Value.builtin "object.__getattribute__")=false from by decide +kernel,Bool.and_false],if_neg (by decide)]
 refine aF ((looks_hook (mc:=.ref 70) X (r:=none) (by nofun)) _ _ _ _ (λ_ _ e=>e) (aF (wpAny_attempt (cL ?_))))
 unfold callGetattribute
 rw [show (expr&&onTheHeap (Value.builtin "BaseException.__getattribute__"))=false from Bool.and_false _,if_neg (by decide)]
 unfold boundAndCalled
 rw [FX.ga.bind]
 refine aF (aP ?_)
 show wpAny _ _ (call (.builtin "BaseException.__getattribute__") [.ref e,.str "word" s.toks]) _ _ _
 refine wpAny_call ?_
 obtain ⟨hp,g,d,t,os⟩:=s
 refine codeAny_call_builtin FX.ga.plain F.entry_bexc_ga (DV (kh X) I.at_ I.cls ?_)
 have L1:=looks_find (M:=model prog w) X I hf
 refine aF (aP (aF (aP (aF (L0.at (aF (L1.at ?_)))))))
 refine aP ?_
 show wpAny _ _ (handedOut v) _ _ _
 rw [handedOut_of hh]
 exact aP h
end
end Mine
end
noncomputable section
open PySem PySem.W PyProof.Rows PySem.Calls PySem.SeqAt
namespace Mine
variable (P:Params)
structure TrC where
 call:Expr
 p:List Pos
 rest:List Stmt
noncomputable def trC:List Stmt→TrC
 | .Try [.Expr c a] [.ExceptHandler (some (.Name _ b)) _ [.Return (some (.Attribute (.Name _ d) _ e)) f] g] _ _ h::r=>⟨c,[a,b,d,e,f,g,h],r⟩
 | _=>⟨.Constant .none 0 default,[],[]⟩
abbrev pN:TrC:=trC (bx P).body
def Bl (i:Nat):Pos:=(pN P).p.getD i default
theorem KU:(bx P).body=.Try [.Expr (pN P).call (Bl P 0)] [.ExceptHandler (some (.Name (dec 7310302486867305537) (Bl P 1))) (some (dec 500035838310)) [.Return (some (.Attribute (.Name (dec 500035838310) (Bl P 2)) "word" (Bl P 3))) (Bl P 4)] (Bl P 5)] [] [] (Bl P 6)::(pN P).rest:=by nofun
theorem KV:kR (pN P).call=false:=by nofun
def stM (k:Nat) (xs:List SV):RM SV:=λσ=>cond (Nat.ble 60 k&&Nat.beq xs.length 3) (match Bk (iZ P) (lx P) (xFn (iZ P) (lx P) 6) ⟨uh,[]⟩ (pN P).call ⟨a7 uh Fx xs [],σ.hp,σ.nx⟩ with
 | some σ'=>some [(.str QM,⟨σ.loc,σ'.hp,σ'.nx+1⟩)]
 | none=>none) none
theorem SR.YF {c:Cx} {ρ:Nm} {σ:SS} {s:Shared} {h':Heap} {t:Nat} {m:Str→Option Value} (S:c.SR ρ σ s) (hn:h'.Ns c.L m) (hs:Heap.SameBut c.L s.heap h'):c.SR ρ ⟨[],σ.hp,σ.nx⟩ { s with heap:=h',toks:=t }:=by
 refine ⟨λb o e=>?_,S.fc,λb o e=>(hs.2 b (λq=>by subst q; exact S.Lf _ (S.gd _ _ e))).trans (S.gk b o e),S.gd,⟨m,hn,λy sw e=>nomatch e⟩,S.Lf,λn so e=>?_,S.inj,S.dom⟩
 ·exact (S.fzk b o e).mono λo' z=>(hs.2 b (λq=>by subst q; exact S.Lf _ e)).trans z
 ·obtain ⟨a,o,h1,h2,h3,h4,h5⟩:=S.hp n so e
  exact ⟨a,o,h1,(hs.2 a h4).trans h2,h3,h4,h5⟩
theorem Sg {P:Params} {mg mb:Str→Option Value} {hG:Heap} (PG:aY (cG P) (KK P) mg mb hG):F7 P hG 731 (stM P):=by
 intro k c ρ0 xs vs hg hw rm hv σ outs e ρ s x S Q E hQ
 subst hg hw
 replace hv:=hv.mono x
 unfold stM at e
 cases z:(Nat.ble 60 k&&Nat.beq xs.length 3) with
 | false=>rw [z] at e; cases e
 | true =>
 rw [z] at e
 rw [Bool.and_eq_true] at z
 dsimp only [cond_true] at e
 split at e
 case h_2=>cases e
 rename_i σ2 hx
 cases e
 have rm60:Rm c (59+1):=rm.le (bK z.1)
 refine jq PG (by have:=rm.depth; omega) (b0 c.w.params) (vs:=vs) (ρ:=ρ) (σ1:=⟨a7 uh Fx xs [],σ.hp,σ.nx⟩) (cs:=[]) hv z.2 (by nofun) S (l:=[]) (λp hp=>nomatch hp) ⟨λp hp=>(nomatch hp),.nil⟩ λenv ρ1 s1 oL C hL eF rmI eo x1 S1 _ sm1=>?_
 have rm59:Rm (c.bo env oL C) 59:=rmI _ rm60
 have rm0:Rm (c.bo env oL C) XF:=rm59.le (by decide)
 rw [KU]
 have hc0:=KV c.w.params
 generalize (pN c.w.params).call=ca at hx hc0 ⊢
 generalize (pN c.w.params).rest=rs
 generalize Bl c.w.params 0=p0
 generalize Bl c.w.params 1=p1
 generalize Bl c.w.params 2=p2
 generalize Bl c.w.params 3=p3
 generalize Bl c.w.params 4=p4
 generalize Bl c.w.params 5=p5
 generalize Bl c.w.params 6=p6
 refine qT λQ1 E1 kQ=>?_
 refine bL (wpAny_Try_except (bL (wpAny_Expr_any (pM (c:=c.bo env oL C) PG rm0 (rm59.le (by decide)) (Se PG 6) eo hx S1 λρ2 s2 e D T n2 x2 S2 f2 sm2=>?_) (by unfold interactive; rw [eo.kind]; rfl) (by revert hc0; cases ca<;>intro this<;>first | rfl | cases this))))
 obtain ⟨lo,h1,_⟩:=rm.stk
 obtain ⟨l',g1,g2,g3⟩:=rm59.stk.all
 have hfr:(c.A.deeper env).frames=some (env::lo):=PySem.Around.frames_deeper h1
 have e1:l'=env::lo:=aD (g1.symm.trans hfr)
 subst e1
 refine QH (outer:=lo) hfr (g3 S2) eF f2.ex λh3 T3 y1 y2 y3=>?_
 have hx3:∀ b∈e::(some T).toList,cu (c.bo env oL C) ρ2 σ2 b:=λb hb=>by
  rcases aM hb with rfl | hb
  ·exact f2.fe
  ·exact f2.fT b (by rcases aj hb with rfl; rfl)
 have S3:(c.bo env oL C).SR ρ2 σ2 { s2 with heap:=h3,toks:=s2.toks }:=SR.zf S2 g2 y3 hx3
 obtain ⟨od,hD,ho⟩:=f2.d
 have hDx:D∉e::(some T).toList:=λhb=>by
  rcases aM hb with q | hb
  ·exact f2.ne q.symm
  ·exact f2.nT D (by rcases aj hb with rfl; rfl) rfl
 have hD3:=y3.oth D od hD (wz g2 f2.fD) hDx
 have fT3:cu (c.bo env oL C) ρ2 σ2 T3:=cu.fresh S2 y2
 have nT3:D≠T3:=λq=>by rw [← q,hD] at y2; cases y2
 refine tG y1 λh4 z1 z2=>?_
 have S4:(c.bo env oL C).SR ρ2 σ2 { s2 with heap:=h4,toks:=s2.toks }:=SR.zf (as:=[]) (s:={ s2 with heap:=h3,toks:=s2.toks }) S3 (λb hb=>nomatch hb) z2 λb hb=>by rcases aj hb with rfl; exact fT3
 have hD4:=z2.oth D od hD3 (λq=>nomatch q) λq=>nT3 (aj q)
 have X4:(KK c.w.params).In h4:=λb o q=>S4.br _ _ (PG.G.X _ _ q)
 refine qT λQ2 E2 kQ2=>?_
 refine wpAny_handleBy_cons (codeAny_handlers_test ?_) (by intro q; cases q)
 refine qT λQ4 E4 kQ4=>?_
 obtain ⟨u,hu,hm⟩:=PG.glob 7310302486867305537 (.kref 70) (by nofun)
 have hu:u=.ref 70:=hu c.ν ρ
 subst hu
 have hk:env.kindOf (dec 7310302486867305537)=some .globalImplicit:=(eo.names 7310302486867305537).trans (by nofun)
 refine Name_function_global eo.kind hk ?_ (by decide +kernel)
 have go:∀ {A:Around} {Q':Value→Shared→Prop} {E':Value→Shared→Prop},Q' (.ref 70) { s2 with heap:=h4 }→wpAny c.M A (loadGlobal env (dec 7310302486867305537)) Q' E' { s2 with heap:=h4 }:=λ{A Q' E'} q=>by
  have gg:h4.Ns env.globals mg:=by rw [eo.g]; exact PG.G.g.keeps S4.br
  have gb:h4.Ns env.builtins mb:=by rw [eo.b]; exact PG.G.b.keeps S4.br
  rcases hm with hm | ⟨hm,hm'⟩
  ·exact loadGlobal_global gg hm q
  ·exact loadGlobal_builtin gg hm gb hm' q
 refine go (kQ4 _ _ ?_)
 obtain ⟨oe,fs,he4,hc4,hdi4,hda4,hsz4,hT4⟩:=id z1
 refine wpAny_excMatches_sub_self (kh X4) he4 hc4 (by decide +kernel) ?_
 dsimp only [if_true]
 refine codeAny_handlers_suite_as ?_
 refine tG z1 λh5 w1 w2=>?_
 have S5:(c.bo env oL C).SR ρ2 σ2 { s2 with heap:=h5,toks:=s2.toks }:=SR.zf (as:=[]) (s:={ s2 with heap:=h4,toks:=s2.toks }) S4 (λb hb=>nomatch hb) w2 λb hb=>by rcases aj hb with rfl; exact fT3
 have hD5:=w2.oth D od hD4 (λq=>nomatch q) λq=>nT3 (aj q)
 obtain ⟨oe5,fs5,he5,hc5,hdi5,hda5,_⟩:=id w1
 refine qT λQ3 E3 kQ3=>?_
 let cM:Cx:={ c.bo env oL C with A:=(c.bo env oL C).A.mark (some (.ref e)) }
 let σ6:SS:=⟨[],σ2.hp,σ2.nx+1⟩
 let ρ6:Nm:=bA ρ2 σ2.nx e
 have S6:cM.SR ρ6 σ6 { s2 with heap:=h5,toks:=s2.toks }:=SR.locs (l:=[]) (SR.named (c:=cM) S5) λy sv q=>nomatch q
 have x26:Ext ρ2 ρ6:=SR.ext S5 e
 have fe6:cu cM ρ6 σ6 e:=cu.named (c:=cM) (σ:=σ2) (s:={ s2 with heap:=h5,toks:=s2.toks }) S5 f2.fe
 have fD6:cu cM ρ6 σ6 D:=cu.named (c:=cM) (σ:=σ2) (s:={ s2 with heap:=h5,toks:=s2.toks }) S5 f2.fD
 have xl6:XL cM ρ6 σ6 { s2 with heap:=h5,toks:=s2.toks } [(e,oe5),(D,od)]:=λp hp=>by
  rcases aM hp with rfl | hp
  ·exact ⟨he5,fe6⟩
  ·rcases aj hp with rfl
   exact ⟨hD5,fD6⟩
 have pl:Pl [(e,oe5),(D,od)]:=by
  obtain ⟨es,rfl,_⟩:=ho
  refine ⟨λp hp=>?_,by simp [f2.ne]⟩
  rcases aM hp with rfl | hp
  ·exact ⟨(by show oe5.cls≠_; rw [hc5]; exact λq=>nomatch q),by show oe5.cls≠_; rw [hc5]; exact λq=>nomatch q⟩
  ·rcases aj hp with rfl
   exact ⟨(λq=>nomatch q),λq=>by simp at q⟩
 have eo6:aG (cM.fk [(e,oe5),(D,od)]) ρ6 ⟨uh,[]⟩ env:=((eo.mono x2).mono x26).at rfl
 refine eI (c:=cM.fk [(e,oe5),(D,od)]) (x:=500035838310) (sv:=.ref σ2.nx) (v:=.ref e) eo6 ⟨e,by simp [ρ6,bA],rfl⟩ σ6 [((),⟨[(500035838310,.ref σ2.nx)],σ2.hp,σ2.nx+1⟩)] (by nofun) ρ6 _ (.refl _) (S6.jo xl6 pl.2) _ _ λy7 σ7 ρ7 s7 u7 hm7 x7 S7 _ sm7=>?_
 rcases aj hm7 with q
 cases q
 refine kQ3 _ _ (qT λQ5 E5 kQ5=>?_)
 refine bL (wpAny_Return_some (Attribute_any_ ?_))
 refine uH (c:=cM.fk [(e,oe5),(D,od)]) (x:=500035838310) PG.G PG.glob (eo6.mono x7) (by decide +kernel) (by decide +kernel) ⟨[(500035838310,.ref σ2.nx)],σ2.hp,σ2.nx+1⟩ [(.ref σ2.nx,⟨[(500035838310,.ref σ2.nx)],σ2.hp,σ2.nx+1⟩)] (by nofun) ρ7 s7 (.refl _) S7 _ _ λy8 σ8 ρ8 s8 v8 hm8 x8 S8 r8 sm8=>?_
 rcases aj hm8 with q
 cases q
 obtain ⟨e8,he8,rfl⟩:=r8
 rw [x8 _ _ (x7 _ _ (show ρ6 σ2.nx=some e by simp [ρ6,bA]))] at he8
 cases he8
 obtain ⟨S9,xl9⟩:=SR.Bh (c:=cM) S8 S5.gd pl λp hp=>(xl6 p hp).2.2.2
 obtain ⟨he9,_⟩:=xl9 _ (.head _)
 obtain ⟨hD9,_⟩:=xl9 _ (.tail _ (.head _))
 obtain ⟨es,rfl,hes⟩:=ho
 have h7:=hes.getL 1685221239
 rw [show lk (SY QM n2) 1685221239=some (.str QM) from by nofun] at h7
 obtain ⟨v,hv1,kv,hv2⟩:=h7
 subst hv2
 obtain ⟨oc,odi,oda,osl⟩:=oe5
 dsimp only at hc5 hdi5 hda5
 subst hc5 hdi5 hda5
 refine KS (P:=c.w.params) (ox:=⟨.ref 70,some D,.fields fs5,osl⟩) (od:=dictOf es es.length) (λb o q=>S9.br _ _ (PG.G.X _ _ q)) ⟨he9,rfl,rfl,hD9⟩ (by rw [lookIn_dict]; exact hv1) rfl ?_
 refine kQ5 _ _ ?_
 have hkl:env.kindOf (dec 500035838310)=some .local:=(eo.names 500035838310).trans (by nofun)
 obtain ⟨m9,hm9,_⟩:=S9.loc
 refine wpAny_nameGoes (m:=m9) hkl (by rw [eo.L]; exact hm9) (by rw [eo.kind]; rfl) λh10 m10 hn10 hs10=>?_
 rw [eo.L] at hn10 hs10
 have S10:(c.bo env oL C).SR ρ8 ⟨[],σ2.hp,σ2.nx+1⟩ { s8 with heap:=h10,toks:=s8.toks+1+1 }:=SR.YF (c:=c.bo env oL C) (σ:=⟨[(500035838310,.ref σ2.nx)],σ2.hp,σ2.nx+1⟩) S9 hn10 hs10
 have xx:Ext ρ ρ8:=x1.trans (x2.trans (x26.trans (x7.trans x8)))
 have SB:=SR.back S10 S hL xx
 refine kQ2 _ _ (kQ _ _ ?_)
 exact hQ (.str QM) _ ρ8 _ _ (.head _) xx SB ⟨kv,rfl⟩ (sm1.trans (sm2.trans ((aT.mk _ _ _).trans (sm7.trans (sm8.trans (.mk _ _ _))))))
def YG (k:Nat) (xs:List SV):RM SV:=λσ=>match Ca Xe zd k xs σ with
 | some l=>some l
 | none=>stM P k xs σ
def YH:Pg:=dK (Xq P) 731 (YG P)
theorem cV {P:Params} {mg mb:Str→Option Value} {h:Heap} (PG:aY (cG P) (KK P) mg mb h):aY (YH P) (KK P) mg mb h:=bC (KP PG) (b0 P).kp λk c ρ xs vs hg hw rm hv σ outs e=>by
 unfold YG at e
 split at e
 ·rename_i l q
  cases e
  exact mw (rx PG) k c ρ xs vs hg hw rm hv σ _ q
 ·exact Sg PG k c ρ xs vs hg hw rm hv σ outs e
def bc {α:Type} (f:α×SS→Bool) (o:Option (List (α×SS))):Bool:=Option.rec (motive:=λ_=>Bool) false (λl=>af f l) o
noncomputable abbrev LF:Nat:=120
abbrev lw:Lo:=ai (YH P) LF
theorem fQ {α:Type} {f:α×SS→Bool} {o:Option (List (α×SS))} (h:bc f o=true):∃ l,o=some l∧∀ p∈l,f p=true:=by
 cases o with
 | none=>cases h
 | some l=>exact ⟨l,rfl,λp hp=>aE h p hp⟩
section
variable {c:Cx} {mg mb:Str→Option Value} {ce:CE} {env:Env} {ρ:Nm} {σ:SS} {s:Shared}
theorem dg (PG:aY (cG c.w.params) (KK c.w.params) mg mb c.hG) (rm:Rm c LF) (eo:aG c ρ ce env) {ss:List Stmt} {f:FL×SS→Bool} (h:bc f (bG (lw c.w.params) ce ss σ)=true) (S:c.SR ρ σ s) {Q:Flow→Shared→Prop} {E:Value→Shared→Prop}
 (hQ:∀ fl σ1 ρ1 s1 v,f (fl,σ1)=true→Ext ρ ρ1→c.SR ρ1 σ1 s1→iG c.ν ρ1 fl v→aT s s1→Q v s1):wpAny c.M c.A (execs ss env) Q E s:=by
 obtain ⟨l,hl,hf⟩:=fQ h
 exact dJ (cP ⟨c.prog,c.w,c.ν,c.hG⟩ (cV PG) rfl LF) ⟨rfl,rfl,rfl,rfl⟩ rm ss eo σ l hl ρ s (.refl _) S Q E λy σ' ρ' s' v hm x S' r sm=>hQ y σ' ρ' s' v (hf _ hm) x S' r sm
theorem fS (PG:aY (cG c.w.params) (KK c.w.params) mg mb c.hG) (rm:Rm c LF) (eo:aG c ρ ce env) {st:Stmt} {f:FL×SS→Bool} (h:bc f ((lw c.w.params).S ce st σ)=true) (S:c.SR ρ σ s) {Q:Flow→Shared→Prop} {E:Value→Shared→Prop}
 (hQ:∀ fl σ1 ρ1 s1 v,f (fl,σ1)=true→Ext ρ ρ1→c.SR ρ1 σ1 s1→iG c.ν ρ1 fl v→aT s s1→Q v s1):wpAny c.M c.A (exec st env) Q E s:=by
 obtain ⟨l,hl,hf⟩:=fQ h
 exact (cP ⟨c.prog,c.w,c.ν,c.hG⟩ (cV PG) rfl LF).S c ρ ce env st ⟨rfl,rfl,rfl,rfl⟩ rm eo σ l hl ρ s (.refl _) S Q E λy σ' ρ' s' v hm x S' r sm=>hQ y σ' ρ' s' v (hf _ hm) x S' r sm
theorem HV (PG:aY (cG c.w.params) (KK c.w.params) mg mb c.hG) (rm:Rm c LF) (eo:aG c ρ ce env) {e:Expr} {f:Bool×SS→Bool} (h:bc f ((lw c.w.params).B ce e σ)=true) (S:c.SR ρ σ s) {Q:Bool→Shared→Prop} {E:Value→Shared→Prop}
 (hQ:∀ b σ1 ρ1 s1,f (b,σ1)=true→Ext ρ ρ1→c.SR ρ1 σ1 s1→aT s s1→Q b s1):wpAny c.M c.A (isTrue e env (eval e env)) Q E s:=by
 obtain ⟨l,hl,hf⟩:=fQ h
 exact (cP ⟨c.prog,c.w,c.ν,c.hG⟩ (cV PG) rfl LF).B c ρ ce env e ⟨rfl,rfl,rfl,rfl⟩ rm eo σ l hl ρ s (.refl _) S Q E λy σ' ρ' s' v hm x S' r sm=>by
  subst r
  exact hQ v σ' ρ' s' (hf _ hm) x S' sm
theorem jr (PG:aY (cG c.w.params) (KK c.w.params) mg mb c.hG) (rm:Rm c LF) (eo:aG c ρ ce env) {func:Expr} {args:List Expr} {p:Pos} {a:Nat} {σ1:SS} {xs:List SV} (ha:bO args=true) (hna:notAttr func=true) (hk:keepIn (KK c.w.params) (.ref a)=true)
 (hf:(lw c.w.params).E ce func σ=some [(.kref a,σ)]) (hx:qF (lw c.w.params) ce args σ=some [(xs,σ1)]) (S:c.SR ρ σ s) {Q E:Value→Shared→Prop}
 (hQ:∀ ρ1 s1 vs,Ext ρ ρ1→c.SR ρ1 σ1 s1→bX c.ν ρ1 xs vs→aT s s1→wpAny c.M c.A (call (.ref a) vs) Q E s1):wpAny c.M c.A (eval (.Call func args [] p) env) Q E s:=by
 have ok:=cP ⟨c.prog,c.w,c.ν,c.hG⟩ (cV PG) rfl LF
 have co:c.Of ⟨c.prog,c.w,c.ν,c.hG⟩:=⟨rfl,rfl,rfl,rfl⟩
 rw [jT hna]
 refine aF (eR ok co rm eo hf S λρ1 s1 v x1 S1 r1 sm1=>?_)
 cases r1
 have hp:=dp (env:=env) (p:=p) ha
 have hpl:((backTo p (starEach args env)).any (·.1) || ([]:List (Option Str×Sem Value)).any (·.1.isNone))=false:=by rw [hp]; rfl
 refine callWith_of (P:=λh=>(KK c.w.params).In h) hpl (keeps_K hk) ?_
 refine gM ok co rm args (eo.mono x1) σ _ hx ρ1 s1 (.refl _) S1 _ E λys σ2 ρ2 s2 b hm x2 S2 r2 sm2=>?_
 rcases aj hm with h
 cases h
 refine ⟨λb o z=>S2.br _ _ (PG.G.X _ _ z),?_⟩
 rw [r2.2,List.nil_append]
 exact hQ ρ2 s2 b.pos (x1.trans x2) S2 r2.1 (sm1.trans sm2)
end
theorem bh {r r':Nat→Option Nat} {t t':Nat→Option IT} (hr:∀ n m,r n=some m→r' n=some m) (ht:∀ n m,t n=some m→t' n=some m) {x y:SV} (e:dq r t x=some y):dq r' t' x=some y:=by
 cases x with
 | int u =>
  obtain ⟨z,h1,rfl⟩:=bY e
  have:CW t' u=some z:=by
   cases u with
   | c i=>exact h1
   | v n=>exact ht _ _ h1
  show (CW t' u).map SV.int=_
  rw [this]; rfl
 | ref n =>
  obtain ⟨m,h1,rfl⟩:=bY e
  show (r' n).map SV.ref=_
  rw [hr _ _ h1]; rfl
 | _=>exact e
theorem w0 {r r':Nat→Option Nat} {t t':Nat→Option IT} (hr:∀ n m,r n=some m→r' n=some m) (ht:∀ n m,t n=some m→t' n=some m) {x:List SV}:∀ {y:List SV},nq r t x=some y→nq r' t' x=some y:=by
 induction x with
 | nil=>exact λe=>e
 | cons x l ih=>exact λe=>nt e λz m h1 h2 e=>e▸cz (bh hr ht h1) (ih h2)
theorem HW {r r':Nat→Option Nat} {t t':Nat→Option IT} (hr:∀ n m,r n=some m→r' n=some m) (ht:∀ n m,t n=some m→t' n=some m) {x:List (Nat×SV)}:∀ {y:List (Nat×SV)},yB r t x=some y→yB r' t' x=some y:=by
 induction x with
 | nil=>exact λe=>e
 | cons x l ih=>exact λe=>nv e λz m h1 h2 e=>e▸sr (bh hr ht h1) (ih h2)
theorem iS {r r':Nat→Option Nat} {t t':Nat→Option IT} (hr:∀ n m,r n=some m→r' n=some m) (ht:∀ n m,t n=some m→t' n=some m) {x y:SO} (e:ib r t x=some y):ib r' t' x=some y:=by
 cases x with
 | inst C d =>
  obtain ⟨m,h1,rfl⟩:=bY e
  show (r' d).map _=_
  rw [hr _ _ h1]; rfl
 | dict es =>
  obtain ⟨m,h1,rfl⟩:=bY e
  show (yB r' t' es).map _=_
  rw [HW hr ht h1]; rfl
 | list es =>
  obtain ⟨m,h1,rfl⟩:=bY e
  show (nq r' t' es).map _=_
  rw [w0 hr ht h1]; rfl
 | tup es =>
  obtain ⟨m,h1,rfl⟩:=bY e
  show (nq r' t' es).map _=_
  rw [w0 hr ht h1]; rfl
 | rng n=>exact e
 | ilist=>exact e
 | cell v =>
  cases v with
  | none=>exact e
  | some v =>
   obtain ⟨m,h1,rfl⟩:=bY e
   show (dq r' t' v).map _=_
   rw [bh hr ht h1]; rfl
theorem HX {r:Nat→Option Nat} {a m:Nat} (e:r a=some m):dq r Ei (.ref a)=some (.ref m):=by
 show (r a).map SV.ref=_
 rw [e]; rfl
theorem nA {r:Nat→Option Nat} {s a b m n:Nat} (e1:r a=some m) (e2:r b=some n):ib r Ei (.tup [.str s,.ref a,.ref b])=some (.tup [.str s,.ref m,.ref n]):=by
 show (nq r Ei [.str s,.ref a,.ref b]).map SO.tup=_
 rw [cz (x:=.str s) (y:=.str s) rfl (cz (HX e1) (cz (HX e2) rfl))]
 rfl
def uC (b:Nat→Bool) (n:Nat):Option Nat:=aL (b n) (some n) none
def Iy (b:Nat→Bool) (n:Nat):Option IT:=aL (b n) (some (.v n)) none
theorem b8 {b:Nat→Bool} {n m:Nat} (h:uC b n=some m):m=n∧b n=true:=by
 unfold uC at h
 cases q:b n with
 | false=>rw [q] at h; cases h
 | true=>rw [q] at h; cases h; exact ⟨rfl,rfl⟩
theorem b9 {b:Nat→Bool} {n:Nat} {u:IT} (h:Iy b n=some u):u=.v n∧b n=true:=by
 unfold Iy at h
 cases q:b n with
 | false=>rw [q] at h; cases h
 | true=>rw [q] at h; cases h; exact ⟨rfl,rfl⟩
noncomputable def Of (b d:Nat→Bool) (so:SO):Prop:=ib (uC b) (Iy d) so=some so
noncomputable def dB (b d:Nat→Bool) (sv:SV):Prop:=dq (uC b) (Iy d) sv=some sv
def Sh (b d:Nat→Bool) (so:SO):Bool:=Xa (uC b) (Iy d) so so
def ic (b d:Nat→Bool) (sv:SV):Bool:=Jm (uC b) (Iy d) sv sv
theorem bQ {b d:Nat→Bool} {so:SO} (h:Sh b d so=true):Of b d so:=sx h
theorem bw {b d:Nat→Bool} {sv:SV} (h:ic b d sv=true):dB b d sv:=kT h
section
variable {P:Params} {ν ν':Nat→Int} {ρ ρ':Nm} {b d b' d':Nat→Bool}
theorem Of.mono {so:SO} (h:Of b d so) (hb:∀ n,b n=true→b' n=true) (hd:∀ n,d n=true→d' n=true):Of b' d' so:=by
 refine iS (λn m e=>?_) (λn m e=>?_) h
 ·obtain ⟨rfl,h1⟩:=b8 e
  unfold uC; rw [hb _ h1]; rfl
 ·obtain ⟨rfl,h1⟩:=b9 e
  unfold Iy; rw [hd _ h1]; rfl
theorem dB.mono {so:SV} (h:dB b d so) (hb:∀ n,b n=true→b' n=true) (hd:∀ n,d n=true→d' n=true):dB b' d' so:=by
 refine bh (λn m e=>?_) (λn m e=>?_) h
 ·obtain ⟨rfl,h1⟩:=b8 e
  unfold uC; rw [hb _ h1]; rfl
 ·obtain ⟨rfl,h1⟩:=b9 e
  unfold Iy; rw [hd _ h1]; rfl
theorem Of.or {so:SO} (h:Of b d so) (hb:∀ n,b n=true→∀ a,ρ n=some a→ρ' n=some a) (hd:∀ n,d n=true→ν' n=ν n) {o:Obj} (ho:OR P ν ρ so o):OR P ν' ρ' so o :=
 jU (ν:=ν') (ν':=ν) (ρ:=ρ') (ρ':=ρ) ⟨λn m e a ha=>by obtain ⟨rfl,h1⟩:=b8 e; exact hb _ h1 a ha,λi u e=>by obtain ⟨rfl,h1⟩:=b9 e; exact (hd _ h1).symm⟩ h ho
theorem dB.vr {sv:SV} (h:dB b d sv) (hb:∀ n,b n=true→∀ a,ρ n=some a→ρ' n=some a) (hd:∀ n,d n=true→ν' n=ν n) {v:Value} (ho:VR ν ρ sv v):VR ν' ρ' sv v :=
 fI (ν:=ν') (ν':=ν) (ρ:=ρ') (ρ':=ρ) ⟨λn m e a ha=>by obtain ⟨rfl,h1⟩:=b8 e; exact hb _ h1 a ha,λi u e=>by obtain ⟨rfl,h1⟩:=b9 e; exact (hd _ h1).symm⟩ h ho
end
noncomputable def ltN (nx:Nat) (n:Nat):Bool:=Nat.blt n nx
noncomputable def dP (n:Nat):Bool:=true
def tK (nx:Nat) (mv:List (Nat×Nat)) (n:Nat):Bool:=aL (Nat.blt n nx) (aL (bS mv n) false true) false
def YI (mt:List (Nat×IT)) (n:Nat):Bool:=aL (bS mt n) false true
theorem Si {nx:Nat} {mv:List (Nat×Nat)} {n:Nat} (h:tK nx mv n=true):n<nx∧lk mv n=none:=by
 unfold tK at h
 obtain ⟨h1,h2⟩:=aH h
 refine ⟨aC.mp h1,?_⟩
 unfold bS at h2
 cases q:lk mv n with
 | none=>rfl
 | some m=>rw [q] at h2; cases h2
theorem Sj {ν:Nat→Int} {mt:List (Nat×IT)} {n:Nat} (h:YI mt n=true):kg ν mt n=ν n:=by
 unfold YI bS at h
 unfold kg
 split
 ·cases q:lk mt n with
  | none=>rfl
  | some m=>rw [q] at h; cases h
 ·rfl
noncomputable def ix {α:Type} (B:List (Nat×α)) (n:Nat):Prop:=∀ p∈B,p.1≠n
section
variable {P:Params} {ν:Nat→Int} {hG:Heap} {fz:Addr→Obj→Prop} {L:Addr} {ρ:Nm} {s s':Shared}
theorem dh {l lB:List (Nat×SV)} {LS B:List (Nat×SO)} {nx:Nat} (S:SR P ν hG fz L ρ (bH l LS nx) s) (hS:dQ LS nx) (hB:∀ p∈B,lk LS p.1=some p.2∧Of (ltN nx) dP p.2) (hl:∀ p∈lB,lk l p.1=some p.2∧dB (ltN nx) dP p.2) :
 SR P ν hG (λb o=>fz b o∨a5 ρ (bH l LS nx) s (NotIn id B) b o) L (cI ρ id nx) (bH lB B nx) s:=by
 have up:∀ n,ltN nx n=true→∀ a,ρ n=some a→cI ρ id nx n=some a:=λn hn a ha=>by
  unfold cI
  rw [if_pos (aC.mp hn)]
  show some ((ρ n).getD 0)=some a
  rw [ha]; rfl
 refine S.part id ⟨λp hp=>hS.lt p (aZ (hB p hp).1),hS.nx⟩ (λp hp=>⟨p.2,by rw [c7 hS]; exact (hB p hp).1,id,λo ho=>(hB p hp).2.or up (λ_ _=>rfl) ho⟩) (λp _ q _ h=>h) (λp hp=>⟨p.2,(hl p hp).1,λv hv=>(hl p hp).2.vr up (λ_ _=>rfl) hv⟩)
theorem eV {l lt l':List (Nat×SV)} {LS B B' Lt:List (Nat×SO)} {nx:Nat} {mv:List (Nat×Nat)} {mt:List (Nat×IT)} {ρ1:Nm} {σ1:SS} (S:SR P ν hG fz L ρ (bH l LS nx) s) (hS:dQ LS nx)
 (S1:SR P ν hG (λb o=>fz b o∨a5 ρ (bH l LS nx) s (NotIn id B) b o) L ρ1 σ1 s') (x:Ext (cI ρ id nx) ρ1) (M:Met ν ρ1 mv mt l' B' σ1) (hB':dQ B' nx) (hmv:∀ q∈mv,∃ p∈B',p.1=q.1) (hLt:dQ Lt nx)
 (hτ:∀ p∈Lt,(p∈B'∧Of (ltN nx) dP p.2)∨(ix B p.1∧ix B' p.1∧lk LS p.1=some p.2∧Of (tK nx mv) (YI mt) p.2))
 (hl:∀ p∈lt,lk l' p.1=some p.2∧dB (ltN nx) dP p.2) :
 SR P (kg ν mt) hG fz L (eD ρ ρ1 id mv B' nx) (bH lt Lt nx) s'∧∀ n,tK nx mv n=true→∀ a,ρ n=some a→eD ρ ρ1 id mv B' nx n=some a:=by
 have keep:∀ n,n<nx→lk mv n=none→ρ1 n=some ((ρ n).getD 0):=λn hn _=>x n _ (by unfold cI; rw [if_pos hn]; rfl)
 have hi:∀ p∈B',∀ q∈B',id p.1=id q.1→p.1=q.1:=λp _ q _ h=>h
 have fin:∀ n,n<nx→lk mv n=none→eD ρ ρ1 id mv B' nx n=some ((ρ n).getD 0):=λn hn hm=>by
  by_cases w:∃ p∈B',p.1=n
  ·obtain ⟨p,hp,rfl⟩:=w
   rw [show p.1=id p.1 from rfl,m4 hi hp,m3 hm]
   exact keep _ hn hm
  ·exact jn (λp hp e=>w ⟨p,hp,e⟩) hn
 have up:∀ n,tK nx mv n=true→∀ a,ρ n=some a→eD ρ ρ1 id mv B' nx n=some a:=λn hn a ha=>by
  obtain ⟨h1,h2⟩:=Si hn
  rw [fin n h1 h2,ha]; rfl
 have bo:∀ n,ltN nx n=true→∀ a,(rF mv n).bind ρ1=some a→eD ρ ρ1 id mv B' nx n=some a:=λn hn a ha=>by
  by_cases w:∃ p∈B',p.1=n
  ·obtain ⟨p,hp,rfl⟩:=w
   rw [show p.1=id p.1 from rfl,m4 hi hp]
   exact ha
  ·have hm:lk mv n=none:=by
    cases q:lk mv n with
    | none=>rfl
    | some m=>exact absurd (hmv _ (aZ q)) (λ⟨p,hp,e⟩=>w ⟨p,hp,e⟩)
   rw [m3 hm] at ha
   have ha:ρ1 n=some a:=ha
   rw [keep n (aC.mp hn) hm] at ha
   rw [fin n (aC.mp hn) hm]
   exact ha
 refine ⟨SR.whole (Nat.le_refl _) S S1 M hi (λm so hm=>?_) (λy sv e=>?_) (λk a h=>Bf (λp hp=>hB'.lt p hp) h),up⟩
 ·have hm':=di hLt hm
  rcases hτ _ hm' with ⟨h1,h2⟩ | ⟨h1,h2,h3,h4⟩
  ·exact .inl ⟨_,h1,rfl,id,λo ho=>h2.or bo (λ_ _=>rfl) ho⟩
  ·exact .inr ⟨h1,h2,by rw [c7 hS]; exact h3,λo ho=>h4.or up (λn hn=>Sj hn) ho⟩
 ·obtain ⟨h1,h2⟩:=hl _ (aZ e)
  exact ⟨sv,h1,λv hv=>h2.vr bo (λ_ _=>rfl) hv⟩
def ee (nx:Nat) (f:Nat→Nat) (n:Nat):Option Nat:=aL (Nat.blt n nx) (some (f n)) none
theorem DW {nx:Nat} {f:Nat→Nat} {n m:Nat} (h:ee nx f n=some m):m=f n∧n<nx:=by
 unfold ee at h
 cases q:Nat.blt n nx with
 | false=>rw [q] at h; cases h
 | true=>rw [q] at h; cases h; exact ⟨rfl,aC.mp q⟩
theorem kn {l lB:List (Nat×SV)} {LS B:List (Nat×SO)} {nx:Nat} {f:Nat→Nat} (S:SR P ν hG fz L ρ (bH l LS nx) s) (hS:dQ LS nx) (hBk:dQ B nx) (hi:∀ p∈B,∀ q∈B,f p.1=f q.1→p.1=q.1)
 (hB:∀ p∈B,∃ so,lk LS (f p.1)=some so∧ib (ee nx f) Ei p.2=some so) (hl:∀ p∈lB,∃ y,lk l p.1=some y∧dq (ee nx f) Ei p.2=some y) :
 SR P ν hG (λb o=>fz b o∨a5 ρ (bH l LS nx) s (NotIn f B) b o) L (cI ρ f nx) (bH lB B nx) s:=by
 have W:NN ν ν ρ (cI ρ f nx) (ee nx f) Ei:=⟨λn m e a ha=>by
  obtain ⟨rfl,hn⟩:=DW e
  unfold cI
  rw [if_pos hn,ha]; rfl,λi u e=>by cases e; rfl⟩
 refine S.part f hBk (λp hp=>?_) hi (λp hp=>?_)
 ·obtain ⟨so,h1,h2⟩:=hB p hp
  exact ⟨so,by rw [c7 hS]; exact h1,λq=>by rw [cQ h2]; exact q,λo ho=>jV W h2 ho⟩
 ·obtain ⟨y,h1,h2⟩:=hl p hp
  exact ⟨y,h1,λv hv=>fJ W h2 hv⟩
theorem eW {ν₁:Nat→Int} {l lt l1:List (Nat×SV)} {LS B B' Lt:List (Nat×SO)} {nx:Nat} {f:Nat→Nat} {ρ1:Nm} {F G H D:Nat→Bool} (S:SR P ν hG fz L ρ (bH l LS nx) s) (hS:dQ LS nx)
 (S1:SR P ν₁ hG (λb o=>fz b o∨a5 ρ (bH l LS nx) s (NotIn f B) b o) L ρ1 (bH l1 B' nx) s') (hB':dQ B' nx) (hBd:bP B'=true) (hi:∀ p∈B',∀ q∈B',f p.1=f q.1→p.1=q.1) (hfB:∀ p∈B',f p.1<nx) (hLt:dQ Lt nx)
 (fix:∀ n,F n=true→n<nx∧∀ a,cI ρ f nx n=some a→ρ1 n=some a)
 (hH:∀ n,H n=true→(∃ p∈B',p.1=n)∨(F n=true∧NotIn f B' (f n)∧f n<nx)) (hG':∀ n,G n=true→n<nx∧(NotIn f B' n∨∃ p∈B',f p.1=n∧F p.1=true))
 (hτ:∀ p∈Lt,(∃ q∈B',f q.1=p.1∧ib (λn=>aL (H n) (some (f n)) none) Ei q.2=some p.2)∨(NotIn f B p.1∧NotIn f B' p.1∧lk LS p.1=some p.2∧Of G D p.2))
 (hl:∀ p∈lt,∃ y,lk l1 p.1=some y∧dq (λn=>aL (H n) (some (f n)) none) Ei y=some p.2) (hv:∀ p∈B',Of dP (ltN 100) p.2) (hv':∀ p∈l1,dB dP (ltN 100) p.2) (hld:bP l1=true) (hD:∀ n,D n=true→ν₁ n=ν n) :
 SR P ν₁ hG fz L (eD ρ ρ1 f [] B' nx) (bH lt Lt nx) s'∧∀ n,G n=true→∀ a,ρ n=some a→eD ρ ρ1 f [] B' nx n=some a:=by
 have mr:∀ n m,uC dP n=some m→rF [] n=some m:=λn m e=>by obtain ⟨rfl,_⟩:=b8 e; rfl
 have mt:∀ n m,Iy (ltN 100) n=some m→tF [] n=some m:=λn m e=>by
  obtain ⟨rfl,h⟩:=b9 e
  unfold tF
  have h:Nat.blt n 100=true:=h
  rw [h]; rfl
 have M:Met ν₁ ρ1 [] [] l1 B' (bH l1 B' nx):=by
  refine ⟨λp hp=>⟨p.2,aI hld p hp,bh mr mt (hv' p hp)⟩,λp hp=>⟨p.1,p.2,rfl,by rw [c7 hB']; exact aI hBd p hp,iS mr mt (hv p hp)⟩,λp hp q hq _ _ m e1 e2=>?_,rfl⟩
  cases e1
  exact (aD e2).symm
 have bo:∀ p∈B',eD ρ ρ1 f [] B' nx (f p.1)=ρ1 p.1:=λp hp=>m4 hi hp
 have fixed:∀ n,F n=true→ρ1 n=some ((ρ (f n)).getD 0):=λn hn=>(fix n hn).2 _ (by unfold cI; rw [if_pos (fix n hn).1])
 have up:∀ n,G n=true→∀ a,ρ n=some a→eD ρ ρ1 f [] B' nx n=some a:=λn hn a ha=>by
  obtain ⟨h1,h2 | ⟨p,hp,rfl,hF⟩⟩:=hG' n hn
  ·rw [jn h2 h1,ha]; rfl
  ·rw [bo p hp,fixed _ hF,ha]; rfl
 have W:∀ (ρ0:Nm),(∀ n a,ρ1 n=some a→ρ0 n=some a)→RH ν₁ ν₁ (eD ρ ρ1 f [] B' nx) ρ1 (λn=>aL (H n) (some (f n)) none) Ei:=λ_ _=>⟨λn m e a ha=>by
  cases q:H n with
  | false=>rw [q] at e; cases e
  | true =>
   rw [q] at e
   cases e
   rcases hH n q with ⟨p,hp,rfl⟩ | ⟨h1,h2,h3⟩
   ·rw [bo p hp]; exact ha
   ·rw [fixed n h1] at ha
    rw [jn h2 h3]
    exact ha,λi u e=>by cases e; rfl⟩
 have W:=W ρ1 λ_ _ h=>h
 refine ⟨?_,up⟩
 have R:=SR.whole (τ:=bH lt Lt nx) (Nat.le_refl _) S S1 M hi (λm so hm=>?_) (λy sv e=>?_) (λk a h=>Bf hfB h)
 ·rw [m6] at R; exact R
 ·rw [m6]
  have hm':=di hLt hm
  rcases hτ _ hm' with ⟨q,h1,h2,h3⟩ | ⟨h1,h2,h3,h4⟩
  ·exact .inl ⟨q,h1,h2,λw=>by rw [← cQ h3]; exact w,λo ho=>jU W h3 ho⟩
  ·exact .inr ⟨h1,h2,by rw [c7 hS]; exact h3,λo ho=>h4.or up hD ho⟩
 ·rw [m6]
  obtain ⟨y',h1,h2⟩:=hl _ (aZ e)
  exact ⟨y',h1,λv hv=>fI W h2 hv⟩
end
noncomputable def tbK:List (Nat×SO):=[(79,(.dict [(7305076,.ref 81),(7892834,.ref 83),(7827314,.ref 85),(1919508848,.ref 87),(125779768604014,.ref 13)])),BB,BC,BD,BE,BF,je,jf,jg,jh,ji,jj,jk,jl,u5,u6,u9,vA,vB,vC,vD,vE,vF]
noncomputable def d4:List (Nat×SO):=[(88,.ilist),Cf]
noncomputable def kI:List (Nat×SO):=[QF,(92,(.list [(.int (.v 0)),(.int (.v 1)),(.int (.v 2)),(.int (.v 3)),(.int (.v 4)),(.int (.v 5)),(.int (.v 6)),(.int (.v 7)),(.int (.v 8)),(.int (.v 9)),(.int (.v 10)),(.int (.v 11)),(.int (.v 12)),(.int (.v 13)),(.int (.v 14)),(.int (.v 15)),(.int (.v 16)),(.int (.v 17))])),(94,(.list [(.int (.v 18)),(.int (.v 19)),(.int (.v 20)),(.int (.v 21)),(.int (.v 22)),(.int (.v 23)),(.int (.v 24)),(.int (.v 25)),(.int (.v 26)),(.int (.v 27)),(.int (.v 28)),(.int (.v 29)),(.int (.v 30)),(.int (.v 31)),(.int (.v 32)),(.int (.v 33)),(.int (.v 34)),(.int (.v 35))])),a6,cj,ba,cU,bU,cC,cZ,b6,cT,cO,cD,cf,cg,cn,dN,eT,bV,fi,gU,dA,d9,fO,gG,dO,eU,fj,gV,gR,f9,n8,fL,yk,jb,GU,mU,gF,fw,mT,ew,uy,i7,Cb,kf,gS,i6,gA,n9,fM,fN,yl,jc,jd,GV,mV,mW,dY,jX,kU,dr,gX,gP,kX,kY,ir,ym,yn,yo,iu,GW,GX,GY,jE,kH,dd,gE,jZ,ja,uz,u0,u4,Cc,Cd,Ce,jY,kW,du,gQ,kZ,ke,yp,yq,yr,GZ,Ga,Gb]
def tb:List (Nat×SO):=RM.app d4 (RM.app kI tbK)
structure Cfg where
 sort:Nat
 path:List SV
 place:List SV
 val:SV
 nums:List SV
noncomputable def Sk:Cfg:=⟨7305076,[(.str 97)],[(.str 1819043171),.ref 159],.ref 157,[(.int (.v 0)),(.int (.v 1)),(.int (.v 2)),(.int (.v 3)),(.int (.v 4)),(.int (.v 5)),(.int (.v 6)),(.int (.v 7)),(.int (.v 8)),(.int (.v 9)),(.int (.v 10)),(.int (.v 11)),(.int (.v 12)),(.int (.v 13)),(.int (.v 14)),(.int (.v 15)),(.int (.v 16)),(.int (.v 17))]⟩
noncomputable def w5:Cfg:=⟨7892834,[(.str 97),(.int (.c (0)))],[(.str 1835365481),.ref 157,(.int (.c (0)))],.ref 126,[(.int (.v 0)),(.int (.v 1)),(.int (.v 2)),(.int (.v 3)),(.int (.v 4)),(.int (.v 5)),(.int (.v 6)),(.int (.v 7)),(.int (.v 8))]⟩
noncomputable def dC:Cfg:=⟨7827314,[(.str 97),(.int (.c (0))),(.str 114)],[(.str 431315315046),.ref 126,(.str 114)],.ref 119,[(.int (.v 3)),(.int (.v 4)),(.int (.v 5)),(.int (.v 6)),(.int (.v 7)),(.int (.v 8))]⟩
noncomputable def eX:Cfg:=⟨125779768604014,[(.str 97),(.int (.c (0))),(.str 107)],[(.str 431315315046),.ref 126,(.str 107)],(.int (.v 0)),[(.int (.v 0))]⟩
noncomputable def pO:Cfg:=⟨1919508848,[(.str 97),(.int (.c (0))),(.str 112)],[(.str 431315315046),.ref 126,(.str 112)],.ref 124,[(.int (.v 1)),(.int (.v 2))]⟩
noncomputable def js:Cfg:=⟨125779768604014,[(.str 97),(.int (.c (0))),(.str 112),(.str 120)],[(.str 431315315046),.ref 124,(.str 120)],(.int (.v 1)),[(.int (.v 1))]⟩
noncomputable def jt:Cfg:=⟨125779768604014,[(.str 97),(.int (.c (0))),(.str 112),(.str 121)],[(.str 431315315046),.ref 124,(.str 121)],(.int (.v 2)),[(.int (.v 2))]⟩
noncomputable def ju:Cfg:=⟨1919508848,[(.str 97),(.int (.c (0))),(.str 114),(.int (.c (1)))],[(.str 1835365481),.ref 119,(.int (.c (0)))],.ref 109,[(.int (.v 3)),(.int (.v 4))]⟩
noncomputable def gY:Cfg:=⟨125779768604014,[(.str 97),(.int (.c (0))),(.str 114),(.int (.c (1))),(.str 120)],[(.str 431315315046),.ref 109,(.str 120)],(.int (.v 3)),[(.int (.v 3))]⟩
noncomputable def gZ:Cfg:=⟨125779768604014,[(.str 97),(.int (.c (0))),(.str 114),(.int (.c (1))),(.str 121)],[(.str 431315315046),.ref 109,(.str 121)],(.int (.v 4)),[(.int (.v 4))]⟩
noncomputable def jv:Cfg:=⟨1919508848,[(.str 97),(.int (.c (0))),(.str 114),(.int (.c (2)))],[(.str 1835365481),.ref 119,(.int (.c (1)))],.ref 113,[(.int (.v 5)),(.int (.v 6))]⟩
noncomputable def gc:Cfg:=⟨125779768604014,[(.str 97),(.int (.c (0))),(.str 114),(.int (.c (2))),(.str 120)],[(.str 431315315046),.ref 113,(.str 120)],(.int (.v 5)),[(.int (.v 5))]⟩
noncomputable def gh:Cfg:=⟨125779768604014,[(.str 97),(.int (.c (0))),(.str 114),(.int (.c (2))),(.str 121)],[(.str 431315315046),.ref 113,(.str 121)],(.int (.v 6)),[(.int (.v 6))]⟩
noncomputable def jw:Cfg:=⟨1919508848,[(.str 97),(.int (.c (0))),(.str 114),(.int (.c (3)))],[(.str 1835365481),.ref 119,(.int (.c (2)))],.ref 117,[(.int (.v 7)),(.int (.v 8))]⟩
noncomputable def gj:Cfg:=⟨125779768604014,[(.str 97),(.int (.c (0))),(.str 114),(.int (.c (3))),(.str 120)],[(.str 431315315046),.ref 117,(.str 120)],(.int (.v 7)),[(.int (.v 7))]⟩
noncomputable def gm:Cfg:=⟨125779768604014,[(.str 97),(.int (.c (0))),(.str 114),(.int (.c (3))),(.str 121)],[(.str 431315315046),.ref 117,(.str 121)],(.int (.v 8)),[(.int (.v 8))]⟩
noncomputable def w6:Cfg:=⟨7892834,[(.str 97),(.int (.c (1)))],[(.str 1835365481),.ref 157,(.int (.c (1)))],.ref 154,[(.int (.v 9)),(.int (.v 10)),(.int (.v 11)),(.int (.v 12)),(.int (.v 13)),(.int (.v 14)),(.int (.v 15)),(.int (.v 16)),(.int (.v 17))]⟩
noncomputable def dD:Cfg:=⟨7827314,[(.str 97),(.int (.c (1))),(.str 114)],[(.str 431315315046),.ref 154,(.str 114)],.ref 147,[(.int (.v 12)),(.int (.v 13)),(.int (.v 14)),(.int (.v 15)),(.int (.v 16)),(.int (.v 17))]⟩
noncomputable def pP:Cfg:=⟨125779768604014,[(.str 97),(.int (.c (1))),(.str 107)],[(.str 431315315046),.ref 154,(.str 107)],(.int (.v 9)),[(.int (.v 9))]⟩
noncomputable def pQ:Cfg:=⟨1919508848,[(.str 97),(.int (.c (1))),(.str 112)],[(.str 431315315046),.ref 154,(.str 112)],.ref 152,[(.int (.v 10)),(.int (.v 11))]⟩
noncomputable def jx:Cfg:=⟨125779768604014,[(.str 97),(.int (.c (1))),(.str 112),(.str 120)],[(.str 431315315046),.ref 152,(.str 120)],(.int (.v 10)),[(.int (.v 10))]⟩
noncomputable def jy:Cfg:=⟨125779768604014,[(.str 97),(.int (.c (1))),(.str 112),(.str 121)],[(.str 431315315046),.ref 152,(.str 121)],(.int (.v 11)),[(.int (.v 11))]⟩
noncomputable def jz:Cfg:=⟨1919508848,[(.str 97),(.int (.c (1))),(.str 114),(.int (.c (1)))],[(.str 1835365481),.ref 147,(.int (.c (0)))],.ref 137,[(.int (.v 12)),(.int (.v 13))]⟩
noncomputable def gn:Cfg:=⟨125779768604014,[(.str 97),(.int (.c (1))),(.str 114),(.int (.c (1))),(.str 120)],[(.str 431315315046),.ref 137,(.str 120)],(.int (.v 12)),[(.int (.v 12))]⟩
noncomputable def gp:Cfg:=⟨125779768604014,[(.str 97),(.int (.c (1))),(.str 114),(.int (.c (1))),(.str 121)],[(.str 431315315046),.ref 137,(.str 121)],(.int (.v 13)),[(.int (.v 13))]⟩
noncomputable def j0:Cfg:=⟨1919508848,[(.str 97),(.int (.c (1))),(.str 114),(.int (.c (2)))],[(.str 1835365481),.ref 147,(.int (.c (1)))],.ref 141,[(.int (.v 14)),(.int (.v 15))]⟩
noncomputable def gr:Cfg:=⟨125779768604014,[(.str 97),(.int (.c (1))),(.str 114),(.int (.c (2))),(.str 120)],[(.str 431315315046),.ref 141,(.str 120)],(.int (.v 14)),[(.int (.v 14))]⟩
noncomputable def gu:Cfg:=⟨125779768604014,[(.str 97),(.int (.c (1))),(.str 114),(.int (.c (2))),(.str 121)],[(.str 431315315046),.ref 141,(.str 121)],(.int (.v 15)),[(.int (.v 15))]⟩
noncomputable def j1:Cfg:=⟨1919508848,[(.str 97),(.int (.c (1))),(.str 114),(.int (.c (3)))],[(.str 1835365481),.ref 147,(.int (.c (2)))],.ref 145,[(.int (.v 16)),(.int (.v 17))]⟩
noncomputable def gv:Cfg:=⟨125779768604014,[(.str 97),(.int (.c (1))),(.str 114),(.int (.c (3))),(.str 120)],[(.str 431315315046),.ref 145,(.str 120)],(.int (.v 16)),[(.int (.v 16))]⟩
noncomputable def gw:Cfg:=⟨125779768604014,[(.str 97),(.int (.c (1))),(.str 114),(.int (.c (3))),(.str 121)],[(.str 431315315046),.ref 145,(.str 121)],(.int (.v 17)),[(.int (.v 17))]⟩
noncomputable def Sl:Cfg:=⟨7305076,[(.str 98)],[(.str 1819043171),.ref 222],.ref 220,[(.int (.v 18)),(.int (.v 19)),(.int (.v 20)),(.int (.v 21)),(.int (.v 22)),(.int (.v 23)),(.int (.v 24)),(.int (.v 25)),(.int (.v 26)),(.int (.v 27)),(.int (.v 28)),(.int (.v 29)),(.int (.v 30)),(.int (.v 31)),(.int (.v 32)),(.int (.v 33)),(.int (.v 34)),(.int (.v 35))]⟩
noncomputable def w7:Cfg:=⟨7892834,[(.str 98),(.int (.c (0)))],[(.str 1835365481),.ref 220,(.int (.c (0)))],.ref 189,[(.int (.v 18)),(.int (.v 19)),(.int (.v 20)),(.int (.v 21)),(.int (.v 22)),(.int (.v 23)),(.int (.v 24)),(.int (.v 25)),(.int (.v 26))]⟩
noncomputable def dE:Cfg:=⟨7827314,[(.str 98),(.int (.c (0))),(.str 114)],[(.str 431315315046),.ref 189,(.str 114)],.ref 182,[(.int (.v 21)),(.int (.v 22)),(.int (.v 23)),(.int (.v 24)),(.int (.v 25)),(.int (.v 26))]⟩
noncomputable def pR:Cfg:=⟨125779768604014,[(.str 98),(.int (.c (0))),(.str 107)],[(.str 431315315046),.ref 189,(.str 107)],(.int (.v 18)),[(.int (.v 18))]⟩
noncomputable def pS:Cfg:=⟨1919508848,[(.str 98),(.int (.c (0))),(.str 112)],[(.str 431315315046),.ref 189,(.str 112)],.ref 187,[(.int (.v 19)),(.int (.v 20))]⟩
noncomputable def j2:Cfg:=⟨125779768604014,[(.str 98),(.int (.c (0))),(.str 112),(.str 120)],[(.str 431315315046),.ref 187,(.str 120)],(.int (.v 19)),[(.int (.v 19))]⟩
noncomputable def j3:Cfg:=⟨125779768604014,[(.str 98),(.int (.c (0))),(.str 112),(.str 121)],[(.str 431315315046),.ref 187,(.str 121)],(.int (.v 20)),[(.int (.v 20))]⟩
noncomputable def j4:Cfg:=⟨1919508848,[(.str 98),(.int (.c (0))),(.str 114),(.int (.c (1)))],[(.str 1835365481),.ref 182,(.int (.c (0)))],.ref 172,[(.int (.v 21)),(.int (.v 22))]⟩
noncomputable def gx:Cfg:=⟨125779768604014,[(.str 98),(.int (.c (0))),(.str 114),(.int (.c (1))),(.str 120)],[(.str 431315315046),.ref 172,(.str 120)],(.int (.v 21)),[(.int (.v 21))]⟩
noncomputable def gy:Cfg:=⟨125779768604014,[(.str 98),(.int (.c (0))),(.str 114),(.int (.c (1))),(.str 121)],[(.str 431315315046),.ref 172,(.str 121)],(.int (.v 22)),[(.int (.v 22))]⟩
noncomputable def j6:Cfg:=⟨1919508848,[(.str 98),(.int (.c (0))),(.str 114),(.int (.c (2)))],[(.str 1835365481),.ref 182,(.int (.c (1)))],.ref 176,[(.int (.v 23)),(.int (.v 24))]⟩
noncomputable def gz:Cfg:=⟨125779768604014,[(.str 98),(.int (.c (0))),(.str 114),(.int (.c (2))),(.str 120)],[(.str 431315315046),.ref 176,(.str 120)],(.int (.v 23)),[(.int (.v 23))]⟩
noncomputable def g0:Cfg:=⟨125779768604014,[(.str 98),(.int (.c (0))),(.str 114),(.int (.c (2))),(.str 121)],[(.str 431315315046),.ref 176,(.str 121)],(.int (.v 24)),[(.int (.v 24))]⟩
noncomputable def j7:Cfg:=⟨1919508848,[(.str 98),(.int (.c (0))),(.str 114),(.int (.c (3)))],[(.str 1835365481),.ref 182,(.int (.c (2)))],.ref 180,[(.int (.v 25)),(.int (.v 26))]⟩
noncomputable def g6:Cfg:=⟨125779768604014,[(.str 98),(.int (.c (0))),(.str 114),(.int (.c (3))),(.str 120)],[(.str 431315315046),.ref 180,(.str 120)],(.int (.v 25)),[(.int (.v 25))]⟩
noncomputable def g8:Cfg:=⟨125779768604014,[(.str 98),(.int (.c (0))),(.str 114),(.int (.c (3))),(.str 121)],[(.str 431315315046),.ref 180,(.str 121)],(.int (.v 26)),[(.int (.v 26))]⟩
noncomputable def w8:Cfg:=⟨7892834,[(.str 98),(.int (.c (1)))],[(.str 1835365481),.ref 220,(.int (.c (1)))],.ref 217,[(.int (.v 27)),(.int (.v 28)),(.int (.v 29)),(.int (.v 30)),(.int (.v 31)),(.int (.v 32)),(.int (.v 33)),(.int (.v 34)),(.int (.v 35))]⟩
noncomputable def dF:Cfg:=⟨7827314,[(.str 98),(.int (.c (1))),(.str 114)],[(.str 431315315046),.ref 217,(.str 114)],.ref 210,[(.int (.v 30)),(.int (.v 31)),(.int (.v 32)),(.int (.v 33)),(.int (.v 34)),(.int (.v 35))]⟩
noncomputable def pT:Cfg:=⟨125779768604014,[(.str 98),(.int (.c (1))),(.str 107)],[(.str 431315315046),.ref 217,(.str 107)],(.int (.v 27)),[(.int (.v 27))]⟩
noncomputable def pU:Cfg:=⟨1919508848,[(.str 98),(.int (.c (1))),(.str 112)],[(.str 431315315046),.ref 217,(.str 112)],.ref 215,[(.int (.v 28)),(.int (.v 29))]⟩
noncomputable def j8:Cfg:=⟨125779768604014,[(.str 98),(.int (.c (1))),(.str 112),(.str 120)],[(.str 431315315046),.ref 215,(.str 120)],(.int (.v 28)),[(.int (.v 28))]⟩
noncomputable def j9:Cfg:=⟨125779768604014,[(.str 98),(.int (.c (1))),(.str 112),(.str 121)],[(.str 431315315046),.ref 215,(.str 121)],(.int (.v 29)),[(.int (.v 29))]⟩
noncomputable def kA:Cfg:=⟨1919508848,[(.str 98),(.int (.c (1))),(.str 114),(.int (.c (1)))],[(.str 1835365481),.ref 210,(.int (.c (0)))],.ref 200,[(.int (.v 30)),(.int (.v 31))]⟩
noncomputable def g9:Cfg:=⟨125779768604014,[(.str 98),(.int (.c (1))),(.str 114),(.int (.c (1))),(.str 120)],[(.str 431315315046),.ref 200,(.str 120)],(.int (.v 30)),[(.int (.v 30))]⟩
noncomputable def hM:Cfg:=⟨125779768604014,[(.str 98),(.int (.c (1))),(.str 114),(.int (.c (1))),(.str 121)],[(.str 431315315046),.ref 200,(.str 121)],(.int (.v 31)),[(.int (.v 31))]⟩
noncomputable def kB:Cfg:=⟨1919508848,[(.str 98),(.int (.c (1))),(.str 114),(.int (.c (2)))],[(.str 1835365481),.ref 210,(.int (.c (1)))],.ref 204,[(.int (.v 32)),(.int (.v 33))]⟩
noncomputable def hU:Cfg:=⟨125779768604014,[(.str 98),(.int (.c (1))),(.str 114),(.int (.c (2))),(.str 120)],[(.str 431315315046),.ref 204,(.str 120)],(.int (.v 32)),[(.int (.v 32))]⟩
noncomputable def hV:Cfg:=⟨125779768604014,[(.str 98),(.int (.c (1))),(.str 114),(.int (.c (2))),(.str 121)],[(.str 431315315046),.ref 204,(.str 121)],(.int (.v 33)),[(.int (.v 33))]⟩
noncomputable def kC:Cfg:=⟨1919508848,[(.str 98),(.int (.c (1))),(.str 114),(.int (.c (3)))],[(.str 1835365481),.ref 210,(.int (.c (2)))],.ref 208,[(.int (.v 34)),(.int (.v 35))]⟩
noncomputable def hW:Cfg:=⟨125779768604014,[(.str 98),(.int (.c (1))),(.str 114),(.int (.c (3))),(.str 120)],[(.str 431315315046),.ref 208,(.str 120)],(.int (.v 34)),[(.int (.v 34))]⟩
noncomputable def hX:Cfg:=⟨125779768604014,[(.str 98),(.int (.c (1))),(.str 114),(.int (.c (3))),(.str 121)],[(.str 431315315046),.ref 208,(.str 121)],(.int (.v 35)),[(.int (.v 35))]⟩
noncomputable def ax:List (Nat×Cfg):=[(97,Sk),(353,w5),(7471457,dC),(7012705,eX),(7340385,pO),(2020606305,js),(2037383521,jt),(41025889,ju),(515437101409,gY),(519732068705,gZ),(57803105,jv),(515453878625,gc),(519748845921,gh),(74580321,jw),(515470655841,gj),(519765623137,gm),(609,w6),(7471713,dD),(7012961,pP),(7340641,pQ),(2020606561,jx),(2037383777,jy),(41026145,jz),(515437101665,gn),(519732068961,gp),(57803361,j0),(515453878881,gr),(519748846177,gu),(74580577,j1),(515470656097,gv),(519765623393,gw),(98,Sl),(354,w7),(7471458,dE),(7012706,pR),(7340386,pS),(2020606306,j2),(2037383522,j3),(41025890,j4),(515437101410,gx),(519732068706,gy),(57803106,j6),(515453878626,gz),(519748845922,g0),(74580322,j7),(515470655842,g6),(519765623138,g8),(610,w8),(7471714,dF),(7012962,pT),(7340642,pU),(2020606562,j8),(2037383778,j9),(41026146,kA),(515437101666,g9),(519732068962,hM),(57803362,kB),(515453878882,hU),(519748846178,hV),(74580578,kC),(515470656098,hW),(519765623394,hX)]
noncomputable def insts:List Nat:=[159,222,157,220,126,154,189,217,124,119,152,147,187,182,215,210,109,113,117,137,141,145,172,176,180,200,204,208]
noncomputable def ownersT:List (Nat×SO):=[QF,cU,bU,b6,cT,dA,d9,fO,gG,gF,fw,mT,ew,uy,i7,Cb,kf,jE,kH,dd,gE,jZ,ja,uz,u0,u4,Cc,Cd,Ce]
noncomputable def dT:List Nat:=[92,94,120,148,183,211,122,150,185,213,107,111,115,135,139,143,170,174,178,198,202,206,98,161,103,131,166,194,97,160,102,130,165,193]
def QO (p v:SV) (acc:List (Nat×Nat)):List (Nat×Nat):=match p,v with
 | .ref n,.ref m=>aL (Nat.beq n m) acc ((n,m)::acc)
 | _,_=>acc
def YJ (xs:List SV):List SV→List (Nat×Nat)→List (Nat×Nat):=List.rec (motive:=λ_=>List SV→List (Nat×Nat)→List (Nat×Nat)) (λ_ acc=>acc)
 (λx _ ih ys acc=>List.rec (motive:=λ_=>List (Nat×Nat)) acc (λy l _=>ih l (QO x y acc)) ys) xs
def YK (xs:List (Nat×SV)):List (Nat×SV)→List (Nat×Nat)→List (Nat×Nat):=List.rec (motive:=λ_=>List (Nat×SV)→List (Nat×Nat)→List (Nat×Nat)) (λ_ acc=>acc)
 (λx _ ih ys acc=>List.rec (motive:=λ_=>List (Nat×Nat)) acc (λy l _=>ih l (QO x.2 y.2 acc)) ys) xs
def QP (a b:SO) (acc:List (Nat×Nat)):List (Nat×Nat):=match a,b with
 | .dict a,.dict b=>YK a b acc
 | .list a,.list b=>YJ a b acc
 | _,_=>acc
def Sn (T:List (Nat×SO)) (H:Hp) (n m:Nat) (acc:List (Nat×Nat)):List (Nat×Nat):=Option.rec (motive:=λ_=>List (Nat×Nat)) acc (λa=>Option.rec (motive:=λ_=>List (Nat×Nat)) acc (λb=>QP a b acc) (H.get m)) (lk T n)
def YL (H:Hp) (l:List (Nat×SO)):List (Nat×Nat):=List.rec (motive:=λ_=>List (Nat×Nat)) [] (λp _ ih=>Option.rec (motive:=λ_=>List (Nat×Nat)) ih (λb=>QP p.2 b ih) (H.get p.1)) l
def So (T:List (Nat×SO)) (H:Hp) (l:List (Nat×Nat)):List (Nat×Nat):=List.rec (motive:=λ_=>List (Nat×Nat)) l (λp _ ih=>Sn T H p.1 p.2 ih) l
def mX (σ:SS):List (Nat×Nat):=So kI σ.hp (YL σ.hp ownersT)
def QQ (l:List SV):Nat→List (Nat×IT)→List (Nat×IT):=List.rec (motive:=λ_=>Nat→List (Nat×IT)→List (Nat×IT)) (λ_ acc=>acc)
 (λx _ ih k acc=>match x with
  | .int u=>aL (qp (.v k) u) (ih (Nat.succ k) acc) ((k,u)::ih (Nat.succ k) acc)
  | _=>ih (Nat.succ k) acc) l
def HY (σ:SS):List (Nat×IT):=match σ.hp.get 90 with
 | some (.dict [a,b])=>(match a.2,b.2 with
  | .ref x,.ref y=>(match σ.hp.get x,σ.hp.get y with
   | some (.list p),some (.list q)=>QQ p 0 (QQ q 18 [])
   | _,_=>[])
  | _,_=>[])
 | _=>[]
noncomputable def cA:List (Nat×SV):=[(1953523051,.ref 79),(1701863796,.ref 89),(495740282211,.ref 95),(7239535,.ref 90),(495622906222,.ref 223)]
def ez:CE:=⟨F0,[(1953656691,256)]⟩
def dst (i:Nat):Stmt:=(A0 P).body.getD i (.Pass default)
noncomputable def KW:Stmt→Expr×List Stmt×List Stmt
 | .If t a b _=>(t,a,b)
 | _=>(.Constant .none 0 default,[],[])
noncomputable def cB:FL→Bool
 | .next=>true
 | _=>false
noncomputable def tL:FL→Bool
 | .ret (.bool true)=>true
 | _=>false
def refOf (l:List (Nat×SV)) (x:Nat):Nat:=match lk l x with
 | some (.ref n)=>n
 | _=>1023
noncomputable def bN (s:Nat):Nat×SO:=(256,.cell (some (.str s)))
noncomputable def six:List Nat:=[7305076,7892834,1919508848,7827314,125779768604014,7632227]
def p1B:Bool:=bc (λp=>aL (cB p.1) (n6 (λs=>eA [] [] cA (bN s::d4) p.2) six) false) ((lw P).S ez (dst P 0) (bH cA ((256,.cell none)::d4) 257))
noncomputable def i9:List (Nat×SV):=(1752457584,.ref 391)::(435459026032,.ref 392)::cA
def Td (s:Nat):Bool:=bc (λp=>aL (cB p.1) (Option.rec (motive:=λ_=>Bool) false (λc=>aL (Nat.beq c.sort s)
 (eA [(391,refOf p.2.loc 1752457584),(392,refOf p.2.loc 435459026032)] [] i9 ((391,.list c.path)::(392,.tup c.place)::bN s::RM.app d4 kI) p.2) false)
 (lk ax (fu p.2 (.ref (refOf p.2.loc 1752457584))))) false) (bG (lw P) ez (KW (dst P 3)).2.2 (bH cA (bN s::RM.app d4 kI) 400))
noncomputable def w9 (v:SV):List (Nat×SV):=(435761734006,v)::(32495402090329454,.ref 393)::i9
def Sp (s:Nat) (σ:SS):Bool:=Option.rec (motive:=λ_=>Bool) false (λc=>aL (Nat.beq c.sort s)
 (eA [(393,refOf σ.loc 32495402090329454)] [] (w9 c.val) ((393,.list c.nums)::bN s::RM.app d4 kI) σ) false)
 (lk ax (fu σ (.ref (refOf σ.loc 111477796466547))))
def YM (s:Nat):Bool:=bc (λp=>aL (cB p.1) (Sp s p.2) false) ((lw P).S ez (dst P 4) (bH i9 (bN s::RM.app d4 kI) 400))
def intOf (l:List (Nat×SV)) (x:Nat):IT:=match lk l x with
 | some (.int u)=>u
 | _=>.c 100
def HZ (σ:SS):Bool:=aL (fh (intOf σ.loc 435761734006))
 (eA [(393,refOf σ.loc 32495402090329454)] [(36,intOf σ.loc 435761734006)] (w9 (.int (.v 36))) ((393,.list [.int (.v 36)])::bN 125779768604014::d4) σ)
 (aL (n6 (λk=>qp (.c k) (intOf σ.loc 435761734006)) [-12,-11,-10,10,11,12]) (eA [(393,refOf σ.loc 32495402090329454)] [] (w9 (.int (intOf σ.loc 435761734006))) ((393,.list [.int (intOf σ.loc 435761734006)])::bN 125779768604014::d4) σ) false)
def YN:Bool:=bc (λp=>aL (cB p.1) (HZ p.2) false) ((lw P).S ez (dst P 4) (bH i9 (bN 125779768604014::d4) 400))
def ry:List Stmt:=[dst P 5,dst P 6,dst P 7]
def KY (T:List (Nat×SO)) (p:FL×SS):Bool:=aL (tL p.1) (aL (af (λq=>bM q.1 dT) (mX p.2)) (eA (mX p.2) (HY p.2) [] T p.2) false) false
def ZO (s:Nat) (c:Cfg) (v:SV) (nums:List SV):Bool:=bc (KY ((391,.list c.path)::(392,.tup c.place)::tb)) (bG (lw P) ez (ry P) (bH (w9 v) ((391,.list c.path)::(392,.tup c.place)::(393,.list nums)::bN s::tb) 400))
theorem SR.qR {P:Params} {ν:Nat→Int} {hG:Heap} {fz:Addr→Obj→Prop} {L:Addr} {ρ:Nm} {σ:SS} {s:Shared} {mv:List (Nat×Nat)} {mt:List (Nat×IT)} {l:List (Nat×SV)} {T:List (Nat×SO)} {nx:Nat}
 (S:SR P ν hG fz L ρ σ s) (M:Met ν ρ mv mt l T σ) (hT:dQ T nx) (hs:∀ p∈T,Of (ltN nx) dP p.2) (hl:∀ p∈l,dB (ltN nx) dP p.2):SR P (kg ν mt) hG fz L (i8 ρ mv nx) (bH l T nx) s:=by
 have W:NN ν (kg ν mt) ρ (λk=>(rF mv k).bind ρ) (rF mv) (tF mt):=⟨λk m h a ha=>by rw [h]; exact ha,λi u h=>QG h⟩
 have up:∀ n,ltN nx n=true→∀ a,(rF mv n).bind ρ=some a→i8 ρ mv nx n=some a:=λn hn a ha=>by
  unfold i8
  rw [if_pos (aC.mp hn)]
  exact ha
 refine ⟨S.fzk,S.fc,S.gk,S.gd,?_,S.Lf,λk so hk=>?_,λk k' so so' a e1 e2 r1 r2 k1 k2=>?_,λk a h=>?_⟩
 ·obtain ⟨m,hm,hv⟩:=S.loc
  refine ⟨m,hm,λx sv e=>?_⟩
  have hmem:(x,sv)∈l:=aZ e
  obtain ⟨y,h1,h2⟩:=M.loc _ hmem
  obtain ⟨v,h3,h4⟩:=hv x y h1
  exact ⟨v,h3,(hl _ hmem).vr up (λ_ _=>rfl) (fJ W h2 h4)⟩
 ·have hm:=di hT hk
  obtain ⟨m,so',h1,h2,h3⟩:=M.obj _ hm
  obtain ⟨a,o,g1,g2,g3,g4,g5⟩:=S.hp m so' h2
  refine ⟨a,o,up k (aC.mpr (hT.lt _ hm)) a (by rw [h1]; exact g1),g2,(hs _ hm).or up (λ_ _=>rfl) (jV W h3 g3),g4,λq=>g5 ?_⟩
  rw [cQ h3]; exact q
 ·have hm1:=di hT e1
  have hm2:=di hT e2
  obtain ⟨m,so1,h1,h2,h3⟩:=M.obj _ hm1
  obtain ⟨m',so2,h1',h2',h3'⟩:=M.obj _ hm2
  have z:∀ n m,rF mv n=some m→n<nx→i8 ρ mv nx n=some a→ρ m=some a:=λn m e hn h=>by
   unfold i8 at h
   rw [if_pos hn,e] at h
   exact h
  have hmm:=S.inj m m' so1 so2 a h2 h2' (z k m h1 (hT.lt _ hm1) r1) (z k' m' h1' (hT.lt _ hm2) r2) (by rw [cQ h3]; exact k1) (by rw [cQ h3']; exact k2)
  subst hmm
  exact M.inj _ hm1 _ hm2 k1 k2 m h1 h1'
 ·unfold i8 at h
  by_cases w:k<nx
  ·exact w
  ·rw [if_neg w] at h; cases h
theorem aG.move {c c':Cx} {ρ ρ':Nm} {ce:CE} {env:Env} (h:aG c ρ ce env) (hL:c'.L=c.L) (hc:∀ x k,lk ce.cells x=some k→∀ a,ρ k=some a→ρ' k=some a):aG c' ρ' ce env :=
 ⟨h.kind,h.names,h.L.trans hL.symm,h.g,h.b,λx k e=>let ⟨a,h1,h2⟩:=h.cells x k e; ⟨a,h1,hc x k e a h2⟩⟩
noncomputable def eg (n:Nat):Bool:=false
theorem YO:af (λp=>Sh (ltN 390) (ltN 36) p.2) tb=true:=by nofun
theorem YQ:af (λp=>Nat.blt p.1 223) tb=true:=by nofun
theorem Bm:bP tb=true:=by nofun
theorem tb_mem {p:Nat×SO}:p∈tb↔p∈d4∨p∈kI∨p∈tbK:=by
 unfold tb
 rw [RM.c8,RM.c8,List.mem_append,List.mem_append]
theorem KZ {p:Nat×SO}:p∈RM.app d4 kI↔p∈d4∨p∈kI:=by rw [RM.c8,List.mem_append]
theorem au {p:Nat×SO} (h:p∈tb):p.1<223:=aC.mp (aE YQ p h)
theorem eY {p:Nat×SO} (h:p∈tb):Of (ltN 390) (ltN 36) p.2:=bQ (aE YO p h)
theorem pV {p:Nat×SO} (h:p∈tb):lk tb p.1=some p.2:=aI Bm p h
theorem bB {a b:Nat} (h:a≤b):∀ n,ltN a n=true→ltN b n=true:=λn hn=>aC.mpr (Nat.lt_of_lt_of_le (aC.mp hn) h)
theorem Sq {a:Nat}:∀ n,ltN a n=true→dP n=true:=λ_ _=>rfl
theorem pW {p:Nat×SO} (h:p∈tb):Of (ltN 400) dP p.2:=(eY h).mono (bB (by omega)) Sq
theorem Ha:af (λn=>Nat.blt n 390) insts=true:=by nofun
structure ae (c:Cfg):Prop where
 path:Of eg eg (.list c.path)
 place:Of (λn=>bM n insts) eg (.tup c.place)
 nums:Of eg (ltN 36) (.list c.nums)
 val:dB (ltN 390) (ltN 36) c.val
def Sr (c:Cfg):Bool:=aL (Sh eg eg (.list c.path)) (aL (Sh (λn=>bM n insts) eg (.tup c.place)) (aL (Sh eg (ltN 36) (.list c.nums)) (ic (ltN 390) (ltN 36) c.val) false) false) false
theorem iT {c:Cfg} (h:Sr c=true):ae c:=by
 unfold Sr at h
 obtain ⟨h1,h⟩:=aH h
 obtain ⟨h2,h⟩:=aH h
 obtain ⟨h3,h4⟩:=aH h
 exact ⟨bQ h1,bQ h2,bQ h3,bw h4⟩
theorem eJ:af (λq=>Sr q.2) ax=true:=by nofun
theorem nB {n:Nat} (h:bM n insts=true):n<390:=by
 have:=aE Ha n (fZ h)
 exact aC.mp this
theorem fU {c:Cfg} (h:ae c):Of (ltN 390) eg (.tup c.place):=h.place.mono (λn hn=>aC.mpr (nB hn)) λ_ h=>h
abbrev Ka (s:Nat) (c:Cfg):List (Nat×SO):=(391,.list c.path)::(392,.tup c.place)::bN s::tb
abbrev LS5 (s:Nat) (c:Cfg) (nums:List SV):List (Nat×SO):=(391,.list c.path)::(392,.tup c.place)::(393,.list nums)::bN s::tb
abbrev Kb (c:Cfg):List (Nat×SO):=(391,.list c.path)::(392,.tup c.place)::tb
noncomputable def YR (ρ ρ':Nm):Prop:=∀ n,n<400→n≠393→bM n dT=false→∀ a,ρ n=some a→ρ' n=some a
noncomputable def P5 (s:Nat) (c:Cfg):Prop:=∃ T5,(T5=d4∨T5=RM.app d4 kI)∧∃ chk:SS→Bool,
 bc (λp=>aL (cB p.1) (chk p.2) false) ((lw P).S ez (dst P 4) (bH i9 (bN s::T5) 400))=true ∧
 ∀ σ1,chk σ1=true→∃ m mt v nums,eA [(393,m)] mt (w9 v) ((393,.list nums)::bN s::T5) σ1=true∧(∀ n,ltN 36 n=true→bS mt n=false)∧Of eg dP (.list nums)∧dB (ltN 390) dP v∧ZO P s c v nums=true
theorem dQ.cons {k:Nat} {so:SO} {L:List (Nat×SO)} {nx:Nat} (h:dQ L nx) (hk:k<nx):dQ ((k,so)::L) nx:=⟨λp hp=>by
 rcases aM hp with rfl | hp
 ·exact hk
 ·exact h.lt p hp,h.nx⟩
theorem d5:dQ tb 400:=⟨λp hp=>Nat.lt_trans (au hp) (by omega),by omega⟩
theorem bW {f:FL} (h:cB f=true):f=.next:=by cases f<;>first | rfl | cases h
theorem jA {f:FL} (h:tL f=true):f=.ret (.bool true):=by
 cases f with
 | ret v=>cases v with
  | bool b=>cases b<;>first | rfl | cases h
  | _=>cases h
 | _=>cases h
theorem bq {k:Nat} {so:SO} {p:Nat×SO} {L:List (Nat×SO)} (h:lk L p.1=some p.2) (hk:k≠p.1):lk ((k,so)::L) p.1=some p.2:=by
 rw [aQ,if_neg hk]; exact h
theorem iy {T5:List (Nat×SO)} (h:T5=d4∨T5=RM.app d4 kI) {p:Nat×SO} (hp:p∈T5):p∈tb:=by
 rcases h with rfl | rfl
 ·exact tb_mem.mpr (.inl hp)
 ·rcases KZ.mp hp with hp | hp
  ·exact tb_mem.mpr (.inl hp)
  ·exact tb_mem.mpr (.inr (.inl hp))
theorem hY (s:Nat) {b d:Nat→Bool}:Of b d (bN s).2:=rfl
theorem Kc:af (λp=>ic (ltN 400) eg p.2) i9=true:=by nofun
theorem pX {p:Nat×SV} (hp:p∈i9):dB (ltN 400) dP p.2:=dB.mono (bw (aE Kc p hp)) (λ_ h=>h) λ_ _=>rfl
theorem DX (w:SV):bP (w9 w)=true:=by nofun
theorem Hc {w:SV} (hw:dB (ltN 390) dP w) {p:Nat×SV} (hp:p∈w9 w):dB (ltN 400) dP p.2:=by
 rcases aM hp with rfl | hp
 ·exact dB.mono hw (bB (by omega)) λ_ h=>h
 ·rcases aM hp with rfl | hp
  ·exact bw (by nofun)
  ·exact pX hp
theorem kq:bP i9=true:=by nofun
theorem Kd {c0:Cx} {mg mb:Str→Option Value} (PG:aY (cG c0.w.params) (KK c0.w.params) mg mb c0.hG) (rm:Rm c0 LF) {env:Env} {ρ:Nm} {s:Nat} {c:Cfg} (hc:ae c) (eo:aG c0 ρ ez env) {s0:Shared} (S:c0.SR ρ (bH i9 (Ka s c) 400) s0)
 (h5:P5 c0.w.params s c) {Q:Flow→Shared→Prop} {E:Value→Shared→Prop}
 (hQ:∀ ν' ρ' s1,eE ν'→SR c0.w.params ν' c0.hG c0.fz c0.L ρ' (bH [] (Kb c) 400) s1→YR ρ ρ'→aT s0 s1→Q (.ret (.bool true)) s1) :
 wpAny c0.M c0.A (execs (dst c0.w.params 4::ry c0.w.params) env) Q E s0:=by
 obtain ⟨T5,hT5,chk,h5,hchk⟩:=h5
 have hLS:dQ (Ka s c) 400:=((d5.cons (by omega)).cons (by omega)).cons (by omega)
 have mem3:∀ p∈bN s::T5,lk (Ka s c) p.1=some p.2∧Of (ltN 400) dP p.2:=λp hp=>by
  rcases aM hp with rfl | hp
  ·exact ⟨rfl,hY s⟩
  ·have hp:=iy hT5 hp
   have hl:=au hp
   exact ⟨bq (bq (bq (pV hp) (by omega)) (by omega)) (by omega),pW hp⟩
 have SP:=dh S hLS (B:=bN s::T5) (lB:=i9) mem3 (λp hp=>⟨aI kq p hp,pX hp⟩)
 let c5:Cx:={ c0 with fz:=λb o=>c0.fz b o∨a5 ρ (bH i9 (Ka s c) 400) s0 (NotIn id (bN s::T5)) b o }
 have eo5:aG c5 (cI ρ id 400) ez env:=eo.move rfl λx k e a ha=>by
  have hk:k=256:=by
   have:=aZ e
   simp only [ez,List.mem_singleton,Prod.mk.injEq] at this
   exact this.2
  subst hk
  unfold cI
  rw [if_pos (by omega)]
  show some ((ρ 256).getD 0)=some a
  rw [ha]; rfl
 refine bL (fS (c:=c5) PG (rm.fz rfl rfl rfl λ_ _ e=>by first | exact e | exact .inl e) eo5 h5 SP λfl σ1 ρ1 s1 v hf x1 S1 r1 sm1=>?_)
 obtain ⟨hn,hf⟩:=aH hf
 have hn:=bW hn
 dsimp only at hn hf
 subst hn
 replace r1:v=Flow.next:=r1
 subst r1
 obtain ⟨m,mt,w,nums,hmet,hmt,hnums,hw,h6⟩:=hchk _ hf
 have M:=cN (ν:=c0.ν) (ρ:=ρ1) hmet
 have hLS5:dQ (LS5 s c nums) 400:=(((d5.cons (by omega)).cons (by omega)).cons (by omega)).cons (by omega)
 have hB':dQ ((393,.list nums)::bN s::T5) 400:=⟨λp hp=>by
  rcases aM hp with rfl | hp
  ·show 393<400; omega
  ·rcases aM hp with rfl | hp
   ·show 256<400; omega
   ·exact d5.lt p (iy hT5 hp),by omega⟩
 have unm:∀ n,ltN 390 n=true→tK 400 [(393,m)] n=true:=λn hn=>by
  have hn:=aC.mp hn
  have hlk:lk [(393,m)] n=none:=by rw [aQ]; exact if_neg (by omega)
  unfold tK bS
  rw [show Nat.blt n 400=true from aC.mpr (by omega),hlk]; rfl
 have unt:∀ n,ltN 36 n=true→YI mt n=true:=λn hn=>by
  unfold YI; rw [hmt n hn]; rfl
 have nokey:∀ {k:Nat},223≤k→k≠256→ix (bN s::T5) k:=λhk h2 p hp=>by
  rcases aM hp with rfl | hp
  ·exact λe=>h2 e.symm
  ·have:=au (iy hT5 hp); omega
 obtain ⟨S2,up2⟩:=eV (Lt:=LS5 s c nums) (lt:=w9 w) S hLS S1 x1 M hB' (λq hq=>by rw [aj hq]; exact ⟨_,.head _,rfl⟩) hLS5 (λp hp=>by
  rcases aM hp with rfl | hp
  ·refine .inr ⟨nokey (by show 223≤391; omega) (by show 391≠256; omega),λq hq=>?_,rfl,hc.path.mono (λn hn=>nomatch hn) (λn hn=>nomatch hn)⟩
   rcases aM hq with rfl | hq
   ·show 393≠391; omega
   ·exact nokey (by show 223≤391; omega) (by show 391≠256; omega) q hq
  ·rcases aM hp with rfl | hp
   ·refine .inr ⟨nokey (by show 223≤392; omega) (by show 392≠256; omega),λq hq=>?_,rfl,(fU hc).mono unm (λn hn=>nomatch hn)⟩
    rcases aM hq with rfl | hq
    ·show 393≠392; omega
    ·exact nokey (by show 223≤392; omega) (by show 392≠256; omega) q hq
   ·rcases aM hp with rfl | hp
    ·exact .inl ⟨.head _,hnums.mono (λn hn=>nomatch hn) λ_ h=>h⟩
    ·rcases aM hp with rfl | hp
     ·exact .inl ⟨.tail _ (.head _),hY s⟩
     ·by_cases q:p∈T5
      ·exact .inl ⟨.tail _ (.tail _ q),pW hp⟩
      ·have hl:=au hp
       have no:ix T5 p.1:=λr hr e=>by
        have h1:=pV (iy hT5 hr)
        rw [e,pV hp] at h1
        have h1:=aD h1
        have:r=p:=by cases r; cases p; simp only at e h1; rw [e,h1]
        exact q (this▸hr)
       refine .inr ⟨λr hr=>?_,λr hr=>?_,bq (bq (bq (pV hp) (by omega)) (by omega)) (by omega),(eY hp).mono unm unt⟩
       ·rcases aM hr with rfl | hr
        ·show 256≠p.1; omega
        ·exact no r hr
       ·rcases aM hr with rfl | hr
        ·show 393≠p.1; omega
        ·rcases aM hr with rfl | hr
         ·show 256≠p.1; omega
         ·exact no r hr)
  (λp hp=>⟨aI (DX w) p hp,Hc hw hp⟩)
 have sm2:=sm1
 let ν2:=kg c0.ν mt
 have nu2:eE ν2:=eE.mt ⟨c0.νb,c0.νs⟩ M.b
 let c2:Cx:=c0.nu ν2 nu2.b nu2.s
 generalize hρ2:eD ρ ρ1 id [(393,m)] ((393,.list nums)::bN s::T5) 400=ρ2 at S2 up2
 have eo2:aG c2 ρ2 ez env:=eo.move rfl λx k e a ha=>by
  have hk:k=256:=by
   have:=aZ e
   simp only [ez,List.mem_singleton,Prod.mk.injEq] at this
   exact this.2
  subst hk
  refine up2 256 ?_ a ha
  rfl
 refine dg (c:=c2) PG (rm.fz rfl rfl rfl λ_ _ e=>by first | exact e | exact .inl e) eo2 h6 S2 λfl σ3 ρ3 s3 v hf x3 S3 r3 sm3=>?_
 unfold KY at hf
 obtain ⟨g1,hf⟩:=aH hf
 obtain ⟨g2,g3⟩:=aH hf
 have g1:=jA g1
 dsimp only at g1 g2 g3
 subst g1
 obtain ⟨u,rfl,hu⟩:=r3
 replace hu:u=.bool true:=hu
 subst hu
 have M3:=cN (ν:=ν2) (ρ:=ρ3) g3
 have hLf:dQ (Kb c) 400:=(d5.cons (by omega)).cons (by omega)
 have S4:=SR.qR S3 M3 hLf (λp hp=>by
  rcases aM hp with rfl | hp
  ·exact hc.path.mono (λn hn=>nomatch hn) (λn hn=>nomatch hn)
  ·rcases aM hp with rfl | hp
   ·exact (fU hc).mono (bB (by omega)) (λn hn=>nomatch hn)
   ·exact pW hp) (λp hp=>nomatch hp)
 refine hQ _ _ _ (nu2.mt M3.b) S4 (λn h1 h2 h3 a ha=>?_) (sm1.trans sm3)
 have e2:=x3 n a (up2 n (by
  have hlk:lk [(393,m)] n=none:=by rw [aQ]; exact if_neg (λe=>h2 e.symm)
  unfold tK bS
  rw [show Nat.blt n 400=true from aC.mpr h1,hlk]; rfl) a ha)
 have hmv:lk (mX σ3) n=none:=by
  cases q:lk (mX σ3) n with
  | none=>rfl
  | some k =>
   have:=aE g2 _ (aZ q)
   dsimp only at this
   rw [h3] at this; cases this
 unfold i8
 rw [if_pos h1,m3 hmv]
 exact e2
noncomputable def Ke:List Nat:=[223,224,230,231,232,233,234,235,236,237,238]
def stN:List Nat:=79::88::89::90::95::insts
def gB (n:Nat):Bool:=aL (bM n Ke) true (bM n stN)
noncomputable def dU (ρ ρ':Nm):Prop:=∀ n,gB n=true→∀ a,ρ n=some a→ρ' n=some a
theorem dU.trans {a b c:Nm} (h:dU a b) (h':dU b c):dU a c:=λn hn x hx=>h' n hn x (h n hn x hx)
theorem YS:af (λn=>aL (bS tb n) (aL (bM n dT) false true) false) stN=true:=by nofun
theorem Ss:af (λn=>bS tb n) dT=true:=by nofun
theorem hZ:af (λp=>Sh (ltN 223) dP p.2) tb=true:=by nofun
theorem iU {n:Nat} (h:bS tb n=true):∃ p∈tb,p.1=n:=by
 unfold bS at h
 cases q:lk tb n with
 | none=>rw [q] at h; cases h
 | some so=>exact ⟨_,aZ q,rfl⟩
theorem kr {n:Nat} (h:bS tb n=false):∀ p∈tb,p.1≠n:=λp hp e=>by
 unfold bS at h
 rw [← e,pV hp] at h
 cases h
theorem Kf {n:Nat} {l:List Nat} (h:n∈l):bM n l=true:=by
 induction l with
 | nil=>exact nomatch h
 | cons x r ih =>
  show cond (Nat.beq x n) true (bM n r)=true
  refine fY h (λw=>by rw [w,Nat.beq_refl]; rfl) λh=>?_
  rw [ih h]; cases Nat.beq x n<;>rfl
theorem Bn {n:Nat} (h:bM n stN=true):(∃ p∈tb,p.1=n)∧bM n dT=false:=by
 have:=aE YS n (fZ h)
 obtain ⟨h1,h2⟩:=aH this
 refine ⟨iU h1,?_⟩
 cases q:bM n dT with
 | false=>rfl
 | true=>rw [q] at h2; cases h2
theorem rz {n:Nat} (h:bM n stN=true):n<223:=by
 obtain ⟨⟨p,hp,rfl⟩,_⟩:=Bn h
 exact au hp
theorem ku {n:Nat} (h:bS tb n=false):bM n dT=false:=by
 cases q:bM n dT with
 | false=>rfl
 | true=>rw [aE Ss n (fZ q)] at h; cases h
theorem iV {n:Nat} (h:bM n insts=true):bM n stN=true:=Kf (by
 unfold stN
 exact .tail _ (.tail _ (.tail _ (.tail _ (.tail _ (fZ h))))))
theorem Su:af (λn=>aL (Nat.ble 223 n) (Nat.ble n 238) false) Ke=true:=by nofun
theorem bj {n:Nat} (h:bM n Ke=true):223≤n∧n≤238∧n≠256:=by
 obtain ⟨h1,h2⟩:=aH (aE Su n (fZ h))
 exact ⟨bK h1,bK h2,λe=>by subst e; cases h2⟩
structure iA (F:List (Nat×SO)):Prop where
 nm:∀ p∈F,bM p.1 Ke=true
 of:∀ p∈F,Of gB eg p.2
 nd:bP F=true
noncomputable def fK (a b n:Nat):Nat:=if n=391 then a else if n=392 then b else n
theorem dZ {a b n:Nat} (h:n<391):fK a b n=n:=by unfold fK; rw [if_neg (Nat.ne_of_lt h),if_neg (Nat.ne_of_lt (Nat.lt_succ_of_lt h))]
theorem e6 {a b:Nat}:fK a b 391=a:=by unfold fK; rw [if_pos rfl]
theorem e7 {a b:Nat}:fK a b 392=b:=by unfold fK; rw [if_neg (by omega),if_pos rfl]
noncomputable def QR (n:Nat):Prop:=n=256∨n<223
noncomputable def NM (n:Nat):Prop:=n=391∨n=392∨QR n
theorem QR.lt {n:Nat} (h:QR n):n<391:=h.elim (λe=>e▸by decide) λh=>Nat.lt_trans h (by decide)
theorem QR.ne {n a:Nat} (h:QR n) (h1:223<a) (h2:a≠256):a≠n:=λe=>h.elim (λq=>h2 (e.trans q)) λq=>Nat.lt_asymm (e▸h1) q
theorem QR.ne' {n a:Nat} (h:QR n) (h1:223≤a) (h2:a≠256):a≠n:=λe=>h.elim (λq=>h2 (e.trans q)) λq=>Nat.not_le_of_lt q (e▸h1)
structure AB (a b:Nat):Prop where
 a1:223<a
 a2:a<400
 a3:a≠256
 a4:a≠b
 b1:223<b
 b2:b<400
 b3:b≠256
section
variable {a b:Nat}
theorem AB.inj (h:AB a b) {n m:Nat} (hn:NM n) (hm:NM m) (e:fK a b n=fK a b m):n=m:=by
 rcases hn with rfl | rfl | hn<;>rcases hm with rfl | rfl | hm
 ·rfl
 ·exact absurd ((e6.symm.trans e).trans e7) h.a4
 ·exact absurd ((e6.symm.trans e).trans (dZ hm.lt)) (hm.ne h.a1 h.a3)
 ·exact absurd ((e7.symm.trans e).trans e6).symm h.a4
 ·rfl
 ·exact absurd ((e7.symm.trans e).trans (dZ hm.lt)) (hm.ne h.b1 h.b3)
 ·exact absurd ((e6.symm.trans e.symm).trans (dZ hn.lt)) (hn.ne h.a1 h.a3)
 ·exact absurd ((e7.symm.trans e.symm).trans (dZ hn.lt)) (hn.ne h.b1 h.b3)
 ·exact ((dZ hn.lt).symm.trans e).trans (dZ hm.lt)
theorem NM.out {m:Nat} (h1:223≤m) (h2:m≠256) (ha:m≠a) (hb:m≠b) {n:Nat} (hn:NM n):fK a b n≠m:=λe=>by
 rcases hn with rfl | rfl | hn
 ·exact ha (e.symm.trans e6)
 ·exact hb (e.symm.trans e7)
 ·exact hn.ne' h1 h2 (e.symm.trans (dZ hn.lt))
theorem AB.lt (h:AB a b) {n:Nat} (hn:NM n):fK a b n<400:=by
 rcases hn with rfl | rfl | hn
 ·exact e6▸h.a2
 ·exact e7▸h.b2
 ·exact (dZ (a:=a) (b:=b) hn.lt).symm▸Nat.lt_trans hn.lt (by decide)
end
theorem Of.sA {b d:Nat→Bool} {so:SO} {r:Nat→Option Nat} (h:Of b d so) (hr:∀ n,b n=true→r n=some n):ib r Ei so=some so :=
 iS (λn m e=>by obtain ⟨rfl,h1⟩:=b8 e; exact hr _ h1) (λn m e=>by obtain ⟨rfl,_⟩:=b9 e; rfl) h
theorem ah {F:List (Nat×SO)} {p:Nat×SO}:p∈RM.app F tb↔p∈F∨p∈tb:=by rw [RM.c8,List.mem_append]
theorem sC {c0:Cx} {mg mb:Str→Option Value} (PG:aY (cG c0.w.params) (KK c0.w.params) mg mb c0.hG) (rm:Rm c0 LF) {env:Env} {ρ:Nm} {s:Nat} {c:Cfg} (hc:ae c) (eo:aG c0 ρ ez env) {F LS:List (Nat×SO)} (hF:iA F) {a b:Nat}
 (ha:223<a∧a<400∧a≠256∧a≠b) (hb:223<b∧b<400∧b≠256) (hFa:∀ p∈F,(p.1=a→p.2=.list c.path)∧(p.1=b→p.2=.tup c.place))
 (hLS:dQ LS 400) (hLa:lk LS a=some (.list c.path)) (hLb:lk LS b=some (.tup c.place)) (hLc:lk LS 256=some (bN s).2) (hLt:∀ p∈tb,lk LS p.1=some p.2) (hLF:∀ p∈F,lk LS p.1=some p.2)
 {l:List (Nat×SV)} (hl:∀ p∈i9,∃ y,lk l p.1=some y∧dq (ee 400 (fK a b)) Ei p.2=some y) {s0:Shared} (S:c0.SR ρ (bH l LS 400) s0)
 (h5:P5 c0.w.params s c) {Q:Flow→Shared→Prop} {E:Value→Shared→Prop}
 (hQ:∀ ν' ρ' s1,eE ν'→SR c0.w.params ν' c0.hG c0.fz c0.L ρ' (bH [] (RM.app F tb) 400) s1→dU ρ ρ'→aT s0 s1→Q (.ret (.bool true)) s1) :
 wpAny c0.M c0.A (execs (dst c0.w.params 4::ry c0.w.params) env) Q E s0:=by
 have hLS3:dQ (Ka s c) 400:=((d5.cons (by omega)).cons (by omega)).cons (by omega)
 have hLSf:dQ (Kb c) 400:=(d5.cons (by omega)).cons (by omega)
 have rid:∀ n,n<391→ee 400 (fK a b) n=some n:=λn hn=>by
  unfold ee
  rw [show Nat.blt n 400=true from aC.mpr (by omega),dZ hn]; rfl
 -- where a name of the part lies
 have key:∀ {p:Nat×SO},p∈Ka s c→(p.1=391∧p.2=.list c.path)∨(p.1=392∧p.2=.tup c.place)∨(p.1=256∧p.2=(bN s).2)∨p∈tb:=λ{p} hp=>by
  rcases aM hp with rfl | hp
  ·exact .inl ⟨rfl,rfl⟩
  ·rcases aM hp with rfl | hp
   ·exact .inr (.inl ⟨rfl,rfl⟩)
   ·rcases aM hp with rfl | hp
    ·exact .inr (.inr (.inl ⟨rfl,rfl⟩))
    ·exact .inr (.inr (.inr hp))
 have keyf:∀ {p:Nat×SO},p∈Kb c→(p.1=391∧p.2=.list c.path)∨(p.1=392∧p.2=.tup c.place)∨p∈tb:=λ{p} hp=>by
  rcases aM hp with rfl | hp
  ·exact .inl ⟨rfl,rfl⟩
  ·rcases aM hp with rfl | hp
   ·exact .inr (.inl ⟨rfl,rfl⟩)
   ·exact .inr (.inr hp)
 have AB0:AB a b:=⟨ha.1,ha.2.1,ha.2.2.1,ha.2.2.2,hb.1,hb.2.1,hb.2.2⟩
 have Kg:∀ {p:Nat×SO},p∈Ka s c→NM p.1:=λ{p} hp=>by
  rcases key hp with ⟨h,_⟩ | ⟨h,_⟩ | ⟨h,_⟩ | h
  ·exact .inl h
  ·exact .inr (.inl h)
  ·exact .inr (.inr (.inl h))
  ·exact .inr (.inr (.inr (au h)))
 have nmf:∀ {p:Nat×SO},p∈Kb c→NM p.1:=λ{p} hp=>by
  rcases keyf hp with ⟨h,_⟩ | ⟨h,_⟩ | h
  ·exact .inl h
  ·exact .inr (.inl h)
  ·exact .inr (.inr (.inr (au h)))
 have SP:=kn (f:=fK a b) (B:=Ka s c) (lB:=i9) S hLS hLS3 (λp hp q hq e=>AB0.inj (Kg hp) (Kg hq) e) (λp hp=>by
  rcases key hp with ⟨h1,h2⟩ | ⟨h1,h2⟩ | ⟨h1,h2⟩ | h
  ·rw [h1,h2,e6]
   exact ⟨_,hLa,hc.path.sA λn hn=>nomatch hn⟩
  ·rw [h1,h2,e7]
   exact ⟨_,hLb,hc.place.sA λn hn=>rid n (by have:=nB hn; omega)⟩
  ·rw [h1,h2,dZ (by omega)]
   exact ⟨_,hLc,rfl⟩
  ·rw [dZ (by have:=au h; omega)]
   exact ⟨_,hLt p h,(eY h).sA λn hn=>rid n (by have:=aC.mp hn; omega)⟩) hl
 let c1:Cx:={ c0 with fz:=λx o=>c0.fz x o∨a5 ρ (bH l LS 400) s0 (NotIn (fK a b) (Ka s c)) x o }
 have eo1:aG c1 (cI ρ (fK a b) 400) ez env:=eo.move rfl λx k e ad hd=>by
  have hk:k=256:=by
   have:=aZ e
   simp only [ez,List.mem_singleton,Prod.mk.injEq] at this
   exact this.2
  subst hk
  unfold cI
  rw [if_pos (by omega),dZ (by omega),hd]; rfl
 refine Kd (c0:=c1) PG (rm.fz rfl rfl rfl λ_ _ e=>by first | exact e | exact .inl e) hc eo1 SP h5 λν' ρ1 s1 nu S1 fx sm=>?_
 have hkeysf:bP (Kb c)=true:=by nofun
 let Fb:Nat→Bool:=λn=>aL (Nat.blt n 400) (aL (Nat.beq n 393) false (aL (bM n dT) false true)) false
 have Fb_ok:∀ n,Fb n=true→n<400∧n≠393∧bM n dT=false:=λn hn=>by
  obtain ⟨h1,h2⟩:=aH hn
  refine ⟨aC.mp h1,λe=>?_,?_⟩
  ·subst e; cases h2
  ·cases q:Nat.beq n 393 with
   | true=>rw [q] at h2; cases h2
   | false =>
    rw [q] at h2
    cases w:bM n dT with
    | false=>rfl
    | true=>rw [w] at h2; cases h2
 have Fb_of:∀ n,n<400→n≠393→bM n dT=false→Fb n=true:=λn h1 h2 h3=>by
  show aL (Nat.blt n 400) (aL (Nat.beq n 393) false (aL (bM n dT) false true)) false=true
  have q:Nat.beq n 393=false:=by
   cases q:Nat.beq n 393 with
   | false=>rfl
   | true=>exact absurd (ar q) h2
  rw [show Nat.blt n 400=true from aC.mpr h1,q,h3]; rfl
 have in391:((391,.list c.path):Nat×SO)∈Kb c:=.head _
 have in392:((392,.tup c.place):Nat×SO)∈Kb c:=.tail _ (.head _)
 have intb:∀ {p:Nat×SO},p∈tb→p∈Kb c:=λhp=>.tail _ (.tail _ hp)
 have mov391:bM 391 dT=false:=ku (by nofun)
 have mov392:bM 392 dT=false:=ku (by nofun)
 have hLt:dQ (RM.app F tb) 400:=⟨λp hp=>by
  rcases ah.mp hp with hp | hp
  ·have:=bj (hF.nm p hp); omega
  ·exact d5.lt p hp,by omega⟩
 obtain ⟨S2,up⟩:=eW (f:=fK a b) (F:=Fb) (G:=gB) (H:=ltN 223) (D:=eg) (Lt:=RM.app F tb) (lt:=[]) S hLS S1 hLSf hkeysf (λp hp q hq e=>AB0.inj (nmf hp) (nmf hq) e) (λp hp=>by
  exact AB0.lt (nmf hp)) hLt
  (λn hn=>by obtain ⟨h1,h2,h3⟩:=Fb_ok n hn; exact ⟨h1,λx hx=>fx n h1 h2 h3 x hx⟩)
  (λn hn=>by
   have hn:=aC.mp hn
   cases q:bS tb n with
   | true=>obtain ⟨p,hp,e⟩:=iU q; exact .inl ⟨p,intb hp,e⟩
   | false =>
    have hs:QR n:=.inr hn
    refine .inr ⟨Fb_of n (Nat.lt_trans hs.lt (by decide)) (Nat.ne_of_lt (Nat.lt_trans hn (by decide))) (ku q),λp hp e=>?_,(dZ hs.lt).symm▸Nat.lt_trans hs.lt (by decide)⟩
    have e:=AB0.inj (nmf hp) (.inr (.inr hs)) e
    rcases keyf hp with ⟨h1,_⟩ | ⟨h1,_⟩ | h
    ·exact absurd (h1.symm.trans e) (Nat.ne_of_gt (Nat.lt_trans hn (by decide)))
    ·exact absurd (h1.symm.trans e) (Nat.ne_of_gt (Nat.lt_trans hn (by decide)))
    ·exact kr q p h e)
  (λn hn=>by
   unfold gB at hn
   cases q:bM n Ke with
   | true =>
    have hf:=bj q
    refine ⟨by omega,?_⟩
    by_cases h1:n=a
    ·exact .inr ⟨_,in391,by rw [e6,h1],Fb_of 391 (by omega) (by omega) mov391⟩
    ·by_cases h2:n=b
     ·exact .inr ⟨_,in392,by rw [e7,h2],Fb_of 392 (by omega) (by omega) mov392⟩
     ·exact .inl (λp hp=>NM.out hf.1 hf.2.2 h1 h2 (nmf hp))
   | false =>
    rw [q] at hn
    have hn:bM n stN=true:=hn
    obtain ⟨⟨p,hp,rfl⟩,h2⟩:=Bn hn
    have:=au hp
    exact ⟨by omega,.inr ⟨p,intb hp,dZ (by omega),Fb_of _ (by omega) (by omega) h2⟩⟩)
  (λp hp=>by
   rcases ah.mp hp with hp | hp
   ·have hf:=bj (hF.nm p hp)
    by_cases h1:p.1=a
    ·refine .inl ⟨_,in391,by rw [e6,h1],?_⟩
     rw [(hFa p hp).1 h1]
     exact hc.path.sA λn hn=>nomatch hn
    ·by_cases h2:p.1=b
     ·refine .inl ⟨_,in392,by rw [e7,h2],?_⟩
      rw [(hFa p hp).2 h2]
      refine hc.place.sA λn hn=>?_
      have hn':=rz (iV hn)
      rw [show ltN 223 n=true from aC.mpr hn',dZ (by omega)]; rfl
     ·exact .inr ⟨λp hp=>NM.out hf.1 hf.2.2 h1 h2 (Kg hp),λp hp=>NM.out hf.1 hf.2.2 h1 h2 (nmf hp),hLF p hp,(hF.of p hp)⟩
   ·have hl:=au hp
    refine .inl ⟨p,intb hp,dZ (by omega),?_⟩
    refine (bQ (aE hZ p hp)).sA λn hn=>?_
    have hn':=aC.mp hn
    rw [hn,dZ (by omega)]; rfl)
  (λp hp=>nomatch hp)
  (λp hp=>by
   rcases keyf hp with ⟨_,h⟩ | ⟨_,h⟩ | h
   ·rw [h]; exact hc.path.mono (λn hn=>nomatch hn) (λn hn=>nomatch hn)
   ·rw [h]; exact hc.place.mono (λ_ _=>rfl) (λn hn=>nomatch hn)
   ·exact (eY h).mono (λ_ _=>rfl) (bB (by omega)))
  (λp hp=>nomatch hp) rfl (λn hn=>nomatch hn)
 exact hQ ν' _ s1 nu S2 up sm
noncomputable def nmL (s1 s2 s3:Nat):List (Nat×SO):=[(223,.list [.ref 230,.ref 233,.ref 236]),(230,.tup [.str s1,.ref 231,.ref 232]),(233,.tup [.str s2,.ref 234,.ref 235]),(236,.tup [.str s3,.ref 237,.ref 238])]
abbrev B2 (s s1 s2 s3:Nat):List (Nat×SO):=bN s::RM.app (nmL s1 s2 s3) d4
def Bo (b:Bool) (x:SV) (l:List SV):List SV:=aL b (x::l) l
def iB (s s1 s2 s3:Nat):List SV:=Bo (Nat.beq s1 s) (.ref 230) (Bo (Nat.beq s2 s) (.ref 233) (Bo (Nat.beq s3 s) (.ref 236) []))
def tM:List (Nat×SV):=(474450194027,.ref 394)::cA
abbrev BK (s s1 s2 s3:Nat):List (Nat×SO):=(394,.list (iB s s1 s2 s3))::B2 s s1 s2 s3
def zj (i:Nat):List (Nat×SV):=(1752457584,.ref (Nat.add i 1))::(435459026032,.ref (Nat.add i 2))::cA
def aAu (s s1 s2 s3:Nat):Bool:=bc (λp=>aL (cB p.1) (eA [] [] cA (B2 s s1 s2 s3) p.2) false) ((lw P).S ez (dst P 1) (bH cA (B2 s s1 s2 s3) 400))
def aAv (s s1 s2 s3:Nat):Bool:=bc (λp=>aL (cB p.1) (eA [(394,refOf p.2.loc 474450194027)] [] tM (BK s s1 s2 s3) p.2) false) ((lw P).S ez (dst P 2) (bH cA (B2 s s1 s2 s3) 400))
def ptB (s s1 s2 s3:Nat):Bool:=bc (λp=>aL (aL p.1 (qN (iB s s1 s2 s3)) false) false (eA [] [] tM (BK s s1 s2 s3) p.2)) ((lw P).B ez (KW (dst P 3)).1 (bH tM (BK s s1 s2 s3) 400))
def YT (s s1 s2 s3:Nat):Bool:=aL (qN (iB s s1 s2 s3)) true (bc (λp=>aL (cB p.1) (n6 (λq:Nat×Nat=>aL (Nat.beq q.2 s) (eA [] [] (zj q.1) (B2 s s1 s2 s3) p.2) false) [(230,s1),(233,s2),(236,s3)]) false)
 (bG (lw P) ez (KW (dst P 3)).2.1 (bH tM (BK s s1 s2 s3) 400)))
def nC (s s1 s2 s3:Nat):Bool:=aL (aAu P s s1 s2 s3) (aL (aAv P s s1 s2 s3) (aL (ptB P s s1 s2 s3) (YT P s s1 s2 s3) false) false) false
noncomputable abbrev Fr (c1 c2 c3:Cfg):List (Nat×SO):=[(223,.list [.ref 230,.ref 233,.ref 236]),(224,.cell (some (.ref 95))),(230,.tup [.str c1.sort,.ref 231,.ref 232]),(231,.list c1.path),(232,.tup c1.place),
 (233,.tup [.str c2.sort,.ref 234,.ref 235]),(234,.list c2.path),(235,.tup c2.place),(236,.tup [.str c3.sort,.ref 237,.ref 238]),(237,.list c3.path),(238,.tup c3.place)]
theorem Kh {n:Nat} (h:bM n insts=true):gB n=true:=by
 unfold gB
 rw [iV h]
 cases bM n Ke<;>rfl
theorem iz {c1 c2 c3:Cfg} (h1:ae c1) (h2:ae c2) (h3:ae c3):iA (Fr c1 c2 c3) where
 nm:=λp hp=>by
  simp only [Fr,List.mem_cons,List.mem_nil_iff,or_false] at hp
  rcases hp with rfl | rfl | rfl | rfl | rfl | rfl | rfl | rfl | rfl | rfl | rfl<;>nofun
 of:=λp hp=>by
  have pa:∀ {c:Cfg},ae c→Of gB eg (.list c.path):=λh=>h.path.mono (λn hn=>nomatch hn) λ_ h=>h
  have pl:∀ {c:Cfg},ae c→Of gB eg (.tup c.place):=λh=>h.place.mono (λn hn=>Kh hn) λ_ h=>h
  simp only [Fr,List.mem_cons,List.mem_nil_iff,or_false] at hp
  rcases hp with rfl | rfl | rfl | rfl | rfl | rfl | rfl | rfl | rfl | rfl | rfl
  ·exact bQ (by nofun)
  ·exact bQ (by nofun)
  ·rfl
  ·exact pa h1
  ·exact pl h1
  ·rfl
  ·exact pa h2
  ·exact pl h2
  ·rfl
  ·exact pa h3
  ·exact pl h3
 nd:=by nofun
abbrev e9 (s:Nat) (F:List (Nat×SO)):List (Nat×SO):=bN s::RM.app F tb
noncomputable def Kp (ρ ρ':Nm):Prop:=∀ n,n<400→n≠394→∀ a,ρ n=some a→ρ' n=some a
theorem iC {ρ1:Nm} {mv:List (Nat×Nat)} {n nx:Nat} {a:Addr} (hn:n<nx) (hm:lk mv n=none) (h:ρ1 n=some a):i8 ρ1 mv nx n=some a:=by
 unfold i8
 rw [if_pos hn,m3 hm]
 exact h
theorem Kp.step {ρ ρ1 ρ2:Nm} (h:Kp ρ ρ1) (x:Ext ρ1 ρ2) {mv:List (Nat×Nat)} (hm:∀ n,n≠394→lk mv n=none):Kp ρ (i8 ρ2 mv 400):=λn h1 h2 a ha=>iC h1 (hm n h2) (x _ _ (h n h1 h2 a ha))
theorem eK {ρ:Nm} {n nx:Nat} {a:Addr} (hn:n<nx) (ha:ρ n=some a):cI ρ id nx n=some a:=by
 unfold cI
 rw [if_pos hn]
 show some ((ρ n).getD 0)=some a
 rw [ha]; rfl
theorem Hd {x k:Nat} (h:lk ez.cells x=some k):k=256:=by
 have:=aZ h
 simp only [ez,List.mem_singleton,Prod.mk.injEq] at this
 exact this.2
theorem cW {c c':Cx} {ρ ρ':Nm} {env:Env} (eo:aG c ρ ez env) (hL:c'.L=c.L) (h:∀ a,ρ 256=some a→ρ' 256=some a):aG c' ρ' ez env:=eo.move hL λx k e a ha=>by
 rw [Hd e] at ha ⊢
 exact h a ha
theorem YU (m n:Nat) (h:n≠394):lk [(394,m)] n=none:=by rw [aQ]; exact if_neg λe=>h e.symm
noncomputable def posOf:Stmt→Pos
 | .If _ _ _ p=>p
 | _=>default
theorem YV:dst P 3=.If (KW (dst P 3)).1 (KW (dst P 3)).2.1 (KW (dst P 3)).2.2 (posOf (dst P 3)):=by nofun
theorem SR.i0 {P:Params} {ν:Nat→Int} {hG:Heap} {fz:Addr→Obj→Prop} {L:Addr} {ρ:Nm} {σ:SS} {s:Shared} (S:SR P (kg ν []) hG fz L ρ σ s):SR P ν hG fz L ρ σ s:=by rw [m6] at S; exact S
theorem xA {s s1 s2 s3:Nat} {p:Nat×SO} (hp:p∈B2 s s1 s2 s3):Of (ltN 400) (ltN 100) p.2∧(p.1=256∨p.1<237):=by
 rcases aM hp with rfl | hp
 ·exact ⟨hY s,.inl rfl⟩
 ·rw [RM.c8,List.mem_append] at hp
  rcases hp with hp | hp
  ·simp only [nmL,List.mem_cons,List.mem_nil_iff,or_false] at hp
   rcases hp with rfl | rfl | rfl | rfl
   ·exact ⟨bQ (by nofun),.inr (by show 223<237; omega)⟩
   ·exact ⟨rfl,.inr (by show 230<237; omega)⟩
   ·exact ⟨rfl,.inr (by show 233<237; omega)⟩
   ·exact ⟨rfl,.inr (by show 236<237; omega)⟩
  ·have:=tb_mem.mpr (.inl hp)
   exact ⟨(eY this).mono (bB (by omega)) (bB (by omega)),.inr (by have:=au this; omega)⟩
theorem zo {s s1 s2 s3:Nat}:dQ (B2 s s1 s2 s3) 400:=⟨λp hp=>by rcases (xA hp).2 with h | h<;>omega,by omega⟩
theorem He (s s1 s2 s3:Nat):Of (ltN 400) (ltN 100) (.list (iB s s1 s2 s3)):=by
 unfold iB Bo
 cases Nat.beq s1 s<;>cases Nat.beq s2 s<;>cases Nat.beq s3 s<;>exact bQ (by nofun)
theorem Hf {s s1 s2 s3:Nat}:dQ (BK s s1 s2 s3) 400:=zo.cons (by omega)
theorem Hg {s s1 s2 s3:Nat} {p:Nat×SO} (hp:p∈BK s s1 s2 s3):Of (ltN 400) (ltN 100) p.2:=by
 rcases aM hp with rfl | hp
 ·exact He ..
 ·exact (xA hp).1
theorem Ki:af (λp=>ic (ltN 400) eg p.2) cA=true:=by nofun
theorem iD {p:Nat×SV} (hp:p∈cA):dB (ltN 400) (ltN 100) p.2:=dB.mono (bw (aE Ki p hp)) (λ_ h=>h) λn hn=>nomatch hn
theorem kx:bP cA=true:=by nofun
theorem Kj:af (λp=>ic (ltN 400) eg p.2) tM=true:=by nofun
theorem pY {p:Nat×SV} (hp:p∈tM):dB (ltN 400) (ltN 100) p.2:=dB.mono (bw (aE Kj p hp)) (λ_ h=>h) λn hn=>nomatch hn
theorem sD:bP tM=true:=by nofun
theorem sE (i:Nat):bP (zj i)=true:=by nofun
theorem xB {i:Nat} (hi:i<390) {p:Nat×SV} (hp:p∈zj i):dB (ltN 400) (ltN 100) p.2:=by
 have h:∀ k,k<400→dB (ltN 400) (ltN 100) (.ref k):=λk hk=>by
  show (uC (ltN 400) k).map SV.ref=_
  unfold uC
  rw [show ltN 400 k=true from aC.mpr hk]; rfl
 rcases aM hp with rfl | hp
 ·exact h _ (by show i+1<400; omega)
 ·rcases aM hp with rfl | hp
  ·exact h _ (by show i+2<400; omega)
  ·exact iD hp
theorem back {P:Params} {ν:Nat→Int} {hG:Heap} {fz:Addr→Obj→Prop} {L:Addr} {ρ ρ1:Nm} {s s':Shared} {l l1 lt:List (Nat×SV)} {LS B B':List (Nat×SO)} (S:SR P ν hG fz L ρ (bH l LS 400) s) (hS:dQ LS 400) (hSd:bP LS=true)
 (S1:SR P ν hG (λb o=>fz b o∨a5 ρ (bH l LS 400) s (NotIn id B) b o) L ρ1 (bH l1 B' 400) s') (hBS:∀ p∈B,p∈B') (hBd:bP B'=true) (hBS':∀ p∈B',p∈B∨p.1=394) (hBL:∀ p∈B,p∈LS) (hno:∀ p∈LS,p.1≠394)
 (hLSo:∀ p∈LS,Of (ltN 390) (ltN 100) p.2) (hB'o:∀ p∈B',Of (ltN 400) (ltN 100) p.2) (hl1:∀ p∈l1,dB (ltN 400) (ltN 100) p.2) (hl1d:bP l1=true) (hlt:∀ p∈lt,lk l1 p.1=some p.2∧dB (ltN 390) dP p.2)
 (k:Kp (cI ρ id 400) ρ1):∃ ρ2,SR P ν hG fz L ρ2 (bH lt LS 400) s'∧Kp ρ ρ2:=by
 have hB'k:dQ B' 400:=⟨λp hp=>by
  rcases hBS' p hp with h | h
  ·exact hS.lt p (hBL p h)
  ·omega,by omega⟩
 let Fb:Nat→Bool:=λn=>aL (Nat.blt n 400) (aL (Nat.beq n 394) false true) false
 have Fb_ok:∀ n,Fb n=true→n<400∧n≠394:=λn hn=>by
  obtain ⟨h1,h2⟩:=aH hn
  refine ⟨aC.mp h1,λe=>?_⟩
  subst e; cases h2
 have Fb_of:∀ n,n<400→n≠394→Fb n=true:=λn h1 h2=>by
  show aL (Nat.blt n 400) (aL (Nat.beq n 394) false true) false=true
  have q:Nat.beq n 394=false:=by
   cases q:Nat.beq n 394 with
   | false=>rfl
   | true=>exact absurd (ar q) h2
  rw [show Nat.blt n 400=true from aC.mpr h1,q]; rfl
 have lt390:∀ n,ltN 390 n=true→Fb n=true:=λn hn=>by
  have:=aC.mp hn
  exact Fb_of n (by omega) (by omega)
 obtain ⟨S2,up⟩:=eW (f:=id) (F:=Fb) (G:=Fb) (H:=ltN 390) (D:=ltN 100) (Lt:=LS) (lt:=lt) S hS S1 hB'k hBd (λp _ q _ h=>h) (λp hp=>hB'k.lt p hp) hS
  (λn hn=>by obtain ⟨h1,h2⟩:=Fb_ok n hn; exact ⟨h1,λx hx=>k n h1 h2 x hx⟩)
  (λn hn=>by
   by_cases w:∃ p∈B',p.1=n
   ·exact .inl w
   ·have:=aC.mp hn
    exact .inr ⟨lt390 n hn,λp hp e=>w ⟨p,hp,e⟩,by show n<400; omega⟩)
  (λn hn=>by
   obtain ⟨h1,h2⟩:=Fb_ok n hn
   refine ⟨h1,?_⟩
   by_cases w:∃ p∈B',p.1=n
   ·obtain ⟨p,hp,rfl⟩:=w
    exact .inr ⟨p,hp,rfl,hn⟩
   ·exact .inl λp hp e=>w ⟨p,hp,e⟩)
  (λp hp=>by
   by_cases w:p∈B
   ·exact .inl ⟨p,hBS p w,rfl,(hLSo p hp).sA λn hn=>by rw [hn]; rfl⟩
   ·refine .inr ⟨λq hq e=>?_,λq hq e=>?_,aI hSd p hp,(hLSo p hp).mono lt390 λ_ h=>h⟩
    ·have h1:=aI hSd q (hBL q hq)
     have h2:=aI hSd p hp
     rw [show q.1=p.1 from e,h2] at h1
     have:q=p:=by cases q; cases p; simp only [id] at e h1; rw [e,aD h1]
     exact w (this▸hq)
    ·rcases hBS' q hq with hq | hq
     ·have h1:=aI hSd q (hBL q hq)
      have h2:=aI hSd p hp
      rw [show q.1=p.1 from e,h2] at h1
      have:q=p:=by cases q; cases p; simp only [id] at e h1; rw [e,aD h1]
      exact w (this▸hq)
     ·exact hno p hp ((show q.1=p.1 from e)▸hq))
  (λp hp=>by
   obtain ⟨h1,h2⟩:=hlt p hp
   refine ⟨p.2,h1,bh (λn m e=>?_) (λn m e=>?_) h2⟩
   ·obtain ⟨rfl,h3⟩:=b8 e
    rw [h3]; rfl
   ·obtain ⟨rfl,_⟩:=b9 e; rfl)
  (λp hp=>(hB'o p hp).mono (λ_ _=>rfl) λ_ h=>h) (λp hp=>dB.mono (hl1 p hp) (λ_ _=>rfl) λ_ h=>h) hl1d (λ_ _=>rfl)
 exact ⟨_,S2,λn h1 h2 a ha=>up n (Fb_of n h1 h2) a ha⟩
theorem pZ (s:Nat) (c1 c2 c3:Cfg):bP (e9 s (Fr c1 c2 c3))=true:=by nofun
theorem tN {s:Nat} {F:List (Nat×SO)} (hF:iA F):dQ (e9 s F) 400:=dQ.cons ⟨λp hp=>by
 rcases ah.mp hp with hp | hp
 ·have:=bj (hF.nm p hp); omega
 ·exact d5.lt p hp,by omega⟩ (by omega)
theorem eh {n:Nat} (h:gB n=true):n<239:=by
 unfold gB at h
 cases q:bM n Ke with
 | true=>have:=bj q; omega
 | false=>rw [q] at h; have:=rz h; omega
theorem jB {s:Nat} {F:List (Nat×SO)} (hF:iA F) {p:Nat×SO} (hp:p∈e9 s F):Of (ltN 390) (ltN 100) p.2:=by
 rcases aM hp with rfl | hp
 ·exact hY s
 ·rcases ah.mp hp with hp | hp
  ·exact (hF.of p hp).mono (λn hn=>aC.mpr (by have:=eh hn; omega)) λn hn=>nomatch hn
  ·exact (eY hp).mono (λ_ h=>h) (bB (by omega))
theorem pd {s:Nat} {F:List (Nat×SO)} (hF:iA F) {p:Nat×SO} (hp:p∈e9 s F):p.1=256∨p.1<239:=by
 rcases aM hp with rfl | hp
 ·exact .inl rfl
 ·rcases ah.mp hp with hp | hp
  ·have:=bj (hF.nm p hp); omega
  ·have:=au hp; omega
theorem tO {s:Nat} {c1 c2 c3:Cfg} {p:Nat×SO} (hp:p∈B2 s c1.sort c2.sort c3.sort):p∈e9 s (Fr c1 c2 c3):=by
 rcases aM hp with rfl | hp
 ·exact .head _
 ·refine .tail _ (ah.mpr ?_)
  rw [RM.c8,List.mem_append] at hp
  rcases hp with hp | hp
  ·refine .inl ?_
   simp only [nmL,List.mem_cons,List.mem_nil_iff,or_false] at hp
   simp only [Fr,List.mem_cons,List.mem_nil_iff,or_false]
   rcases hp with rfl | rfl | rfl | rfl<;>simp
  ·exact .inr (tb_mem.mpr (.inl hp))
theorem Bp (i:Nat):∀ p∈zj i,lk (zj i) p.1=some p.2:=λp hp=>aI (sE i) p hp
noncomputable abbrev cut:Nat:=7632227
structure zq (P:Params) (s:Nat):Prop where
 p3:Td P s=true
 p5:∀ q∈ax,q.2.sort=s→P5 P s q.2
theorem Bq {a b:Nat} {l:List (Nat×SV)} (h1:∀ p∈cA,lk l p.1=some p.2) (h2:lk l 1752457584=some (.ref a)) (h3:lk l 435459026032=some (.ref b)):∀ p∈i9,∃ y,lk l p.1=some y∧dq (ee 400 (fK a b)) Ei p.2=some y:=λp hp=>by
 rcases aM hp with rfl | hp
 ·refine ⟨_,h2,?_⟩
  show (ee 400 (fK a b) 391).map SV.ref=_
  unfold ee
  rw [e6]; rfl
 ·rcases aM hp with rfl | hp
  ·refine ⟨_,h3,?_⟩
   show (ee 400 (fK a b) 392).map SV.ref=_
   unfold ee
   rw [e7]; rfl
  ·refine ⟨_,h1 p hp,?_⟩
   have h:=iD hp
   have hx:ic (ltN 390) eg p.2=true:=by
    have:af (λp=>ic (ltN 390) eg p.2) cA=true:=by nofun
    exact aE this p hp
   refine bh (λn m e=>?_) (λn m e=>?_) (bw hx)
   ·obtain ⟨hm,h4⟩:=b8 e
    have:=aC.mp h4
    rw [hm]
    unfold ee
    rw [show Nat.blt n 400=true from aC.mpr (by omega),dZ (by omega)]; rfl
   ·obtain ⟨_,h3⟩:=b9 e; cases h3
set_option backward.match.sparseCases true in
theorem DY {c0:Cx} {mg mb:Str→Option Value} (PG:aY (cG c0.w.params) (KK c0.w.params) mg mb c0.hG) (rm:Rm c0 LF) {env:Env} {ρ:Nm} {s:Nat} (eo:aG c0 ρ ez env) {c1 c2 c3:Cfg} (h1:ae c1) (h2:ae c2) (h3:ae c3)
 {s0:Shared} (S:c0.SR ρ (bH cA (e9 s (Fr c1 c2 c3)) 400) s0) (so:zq c0.w.params s) {Q:Flow→Shared→Prop} {E:Value→Shared→Prop}
 (hQ:∀ ν' ρ' s1,eE ν'→SR c0.w.params ν' c0.hG c0.fz c0.L ρ' (bH [] (RM.app (Fr c1 c2 c3) tb) 400) s1→dU ρ ρ'→aT s0 s1→Q (.ret (.bool true)) s1) :
 wpAny c0.M c0.A (execs (KW (dst c0.w.params 3)).2.2 env) (λf s'=>match f with | .next=>wpAny c0.M c0.A (execs (dst c0.w.params 4::ry c0.w.params) env) Q E s' | f=>Q f s') E s0:=by
 have hF:=iz h1 h2 h3
 have hLS:dQ (e9 s (Fr c1 c2 c3)) 400:=tN hF
 have hnd:=pZ s c1 c2 c3
 have memTC:∀ p∈bN s::RM.app d4 kI,p∈e9 s (Fr c1 c2 c3):=λp hp=>by
  rcases aM hp with rfl | hp
  ·exact .head _
  ·exact .tail _ (ah.mpr (.inr (iy (.inr rfl) hp)))
 have SP:=dh S hLS (B:=bN s::RM.app d4 kI) (lB:=cA) (λp hp=>⟨aI hnd p (memTC p hp),(jB hF (memTC p hp)).mono (bB (by omega)) λ_ _=>rfl⟩) (λp hp=>⟨aI kx p hp,dB.mono (iD hp) (λ_ h=>h) λ_ _=>rfl⟩)
 let c5:Cx:={ c0 with fz:=λb o=>c0.fz b o∨a5 ρ (bH cA (e9 s (Fr c1 c2 c3)) 400) s0 (NotIn id (bN s::RM.app d4 kI)) b o }
 have eo5:aG c5 (cI ρ id 400) ez env:=cW eo rfl λa ha=>eK (by omega) ha
 refine dg (c:=c5) PG (rm.fz rfl rfl rfl λ_ _ e=>by first | exact e | exact .inl e) eo5 so.p3 SP λfl σ1 ρ1 s1 v hf x1 S1 r1 sm1=>?_
 obtain ⟨hn,hf2⟩:=aH hf
 have hn:=bW hn
 dsimp only at hn hf2
 clear hf
 subst hn
 replace r1:v=Flow.next:=r1
 subst r1
 dsimp only
 cases hck:lk ax (fu σ1 (.ref (refOf σ1.loc 1752457584))) with
 | none=>rw [hck] at hf2; cases hf2
 | some c =>
  rw [hck] at hf2
  obtain ⟨hs,hf3⟩:=aH hf2
  have hs:=ar hs
  have hcm:=aZ hck
  have hc:ae c:=iT (aE eJ _ hcm)
  generalize hma:refOf σ1.loc 1752457584=ma at hf3
  generalize hmb:refOf σ1.loc 435459026032=mb' at hf3
  have M:=cN (ν:=c0.ν) (ρ:=ρ1) hf3
  have hlk:∀ n,n≠391→n≠392→lk [(391,ma),(392,mb')] n=none:=λn h1 h2=>by
   rw [aQ,if_neg (λe=>h1 e.symm),aQ,if_neg (λe=>h2 e.symm)]; rfl
  have unm:∀ n,n<391→tK 400 [(391,ma),(392,mb')] n=true:=λn hn=>by
   unfold tK bS
   rw [show Nat.blt n 400=true from aC.mpr (by omega),hlk n (by omega) (by omega)]; rfl
  have unm':∀ n,ltN 390 n=true→tK 400 [(391,ma),(392,mb')] n=true:=λn hn=>unm n (by have:=aC.mp hn; omega)
  have hB'mem:∀ p∈(391,SO.list c.path)::(392,.tup c.place)::bN s::RM.app d4 kI,p=(391,.list c.path)∨p=(392,.tup c.place)∨p∈bN s::RM.app d4 kI:=λp hp=>by
   rcases aM hp with h | hp
   ·exact .inl h
   ·rcases aM hp with h | hp
    ·exact .inr (.inl h)
    ·exact .inr (.inr hp)
  have hLS':dQ ((391,SO.list c.path)::(392,.tup c.place)::e9 s (Fr c1 c2 c3)) 400:=(hLS.cons (by omega)).cons (by omega)
  have hB'k:dQ ((391,SO.list c.path)::(392,.tup c.place)::bN s::RM.app d4 kI) 400:=⟨λp hp=>by
   rcases hB'mem p hp with rfl | rfl | h
   ·show 391<400; omega
   ·show 392<400; omega
   ·exact hLS.lt p (memTC p h),by omega⟩
  obtain ⟨S2,up2⟩:=eV (Lt:=(391,.list c.path)::(392,.tup c.place)::e9 s (Fr c1 c2 c3)) (lt:=i9) S hLS S1 x1 M hB'k (λq hq=>by
   rcases aM hq with rfl | hq
   ·exact ⟨_,.head _,rfl⟩
   ·rw [aj hq]
    exact ⟨_,.tail _ (.head _),rfl⟩) hLS' (λp hp=>by
   rcases aM hp with rfl | hp
   ·exact .inl ⟨.head _,hc.path.mono (λn hn=>nomatch hn) (λn hn=>nomatch hn)⟩
   ·rcases aM hp with rfl | hp
    ·exact .inl ⟨.tail _ (.head _),(fU hc).mono (bB (by omega)) (λn hn=>nomatch hn)⟩
    ·have ho:=jB hF hp
     by_cases w:p∈bN s::RM.app d4 kI
     ·exact .inl ⟨.tail _ (.tail _ w),ho.mono (bB (by omega)) λ_ _=>rfl⟩
     ·have no:ix (bN s::RM.app d4 kI) p.1:=λq hq e=>by
       have e1:=aI hnd q (memTC q hq)
       rw [e,aI hnd p hp] at e1
       have:q=p:=by cases q; cases p; simp only at e e1; rw [e,aD e1]
       exact w (this▸hq)
      refine .inr ⟨no,λq hq e=>?_,aI hnd p hp,ho.mono unm' λ_ _=>rfl⟩
      have:=pd hF hp
      rcases hB'mem q hq with rfl | rfl | h
      ·have e:391=p.1:=e
       omega
      ·have e:392=p.1:=e
       omega
      ·exact no q h e)
   (λp hp=>⟨aI kq p hp,pX hp⟩)
  generalize eD ρ ρ1 id [(391,ma),(392,mb')] ((391,.list c.path)::(392,.tup c.place)::bN s::RM.app d4 kI) 400=ρ2 at S2 up2
  have S2:=S2.i0
  have eo2:aG c0 ρ2 ez env:=cW eo rfl λa ha=>up2 256 (unm 256 (by omega)) a ha
  have big:∀ p∈e9 s (Fr c1 c2 c3),lk ((391,SO.list c.path)::(392,.tup c.place)::e9 s (Fr c1 c2 c3)) p.1=some p.2:=λp hp=>by
   have:=pd hF hp
   exact bq (bq (aI hnd p hp) (by omega)) (by omega)
  refine sC PG rm (a:=391) (b:=392) hc eo2 hF ⟨by omega,by omega,by omega,by omega⟩ ⟨by omega,by omega,by omega⟩ (λp hp=>⟨λe=>?_,λe=>?_⟩) hLS' rfl rfl (big _ (.head _)) (λp hp=>big p (.tail _ (ah.mpr (.inr hp)))) (λp hp=>big p (.tail _ (ah.mpr (.inl hp))))
   (Bq (λp hp=>aI kq p (.tail _ (.tail _ hp))) (by nofun) (by nofun)) S2 (so.p5 _ hcm hs) (λν' ρ' s2 nu S3 fx sm=>hQ ν' ρ' s2 nu S3 (λn hn a ha=>fx n hn a (up2 n (unm n (by have:=eh hn; omega)) a ha)) (sm1.trans sm))
  ·have:=bj (hF.nm p hp); omega
  ·have:=bj (hF.nm p hp); omega
theorem Sv {c1 c2 c3:Cfg} {s i si:Nat} (h:(i,si)∈[(230,c1.sort),(233,c2.sort),(236,c3.sort)]):(i=230∧si=c1.sort)∨(i=233∧si=c2.sort)∨(i=236∧si=c3.sort):=by
 simp only [List.mem_cons,Prod.mk.injEq,List.mem_nil_iff,or_false] at h
 exact h
theorem YW {c1 c2 c3 c:Cfg} {i:Nat} (h:(i=230∧c=c1)∨(i=233∧c=c2)∨(i=236∧c=c3)) {s:Nat} :
 lk (e9 s (Fr c1 c2 c3)) (i+1)=some (.list c.path)∧lk (e9 s (Fr c1 c2 c3)) (i+2)=some (.tup c.place)∧(∀ p∈Fr c1 c2 c3,(p.1=i+1→p.2=.list c.path)∧(p.1=i+2→p.2=.tup c.place))∧229<i∧i<237:=by
 have nd:bP (Fr c1 c2 c3)=true:=by nofun
 have key:∀ p∈Fr c1 c2 c3,∀ so,lk (Fr c1 c2 c3) p.1=some so→p.2=so:=λp hp so h=>by
  rw [aI nd p hp] at h
  exact aD h
 have one:∀ so1 so2,lk (Fr c1 c2 c3) (i+1)=some so1→lk (Fr c1 c2 c3) (i+2)=some so2→∀ p∈Fr c1 c2 c3,(p.1=i+1→p.2=so1)∧(p.1=i+2→p.2=so2):=λso1 so2 e1 e2 p hp =>
  ⟨λe=>key p hp so1 (e▸e1),λe=>key p hp so2 (e▸e2)⟩
 rcases h with ⟨rfl,rfl⟩ | ⟨rfl,rfl⟩ | ⟨rfl,rfl⟩
 ·exact ⟨by nofun,by nofun,one _ _ (by nofun) (by nofun),by omega,by omega⟩
 ·exact ⟨by nofun,by nofun,one _ _ (by nofun) (by nofun),by omega,by omega⟩
 ·exact ⟨by nofun,by nofun,one _ _ (by nofun) (by nofun),by omega,by omega⟩
theorem Kk {c0:Cx} {mg mb:Str→Option Value} (PG:aY (cG c0.w.params) (KK c0.w.params) mg mb c0.hG) (rm:Rm c0 LF) {env:Env} {ρ:Nm} {s:Nat} (eo:aG c0 ρ ez env) {c1 c2 c3:Cfg} (h1:ae c1) (h2:ae c2) (h3:ae c3)
 {s0:Shared} (S:c0.SR ρ (bH cA (e9 s (Fr c1 c2 c3)) 400) s0) (so:zq c0.w.params s) (hN:nC c0.w.params s c1.sort c2.sort c3.sort=true) (hP:∀ c,(c=c1∨c=c2∨c=c3)→c.sort=s→P5 c0.w.params s c) {Q:Flow→Shared→Prop} {E:Value→Shared→Prop}
 (hQ:∀ ν' ρ' s1,eE ν'→SR c0.w.params ν' c0.hG c0.fz c0.L ρ' (bH [] (RM.app (Fr c1 c2 c3) tb) 400) s1→dU ρ ρ'→aT s0 s1→Q (.ret (.bool true)) s1) :
 wpAny c0.M c0.A (execs (dst c0.w.params 1::dst c0.w.params 2::dst c0.w.params 3::dst c0.w.params 4::ry c0.w.params) env) Q E s0:=by
 unfold nC at hN
 obtain ⟨n1,hN⟩:=aH hN
 obtain ⟨n2,hN⟩:=aH hN
 obtain ⟨n3,n4⟩:=aH hN
 have hF:=iz h1 h2 h3
 have hLS:dQ (e9 s (Fr c1 c2 c3)) 400:=tN hF
 have hnd:=pZ s c1 c2 c3
 have SP:=dh S hLS (B:=B2 s c1.sort c2.sort c3.sort) (lB:=cA) (λp hp=>⟨aI hnd p (tO hp),(jB hF (tO hp)).mono (bB (by omega)) λ_ _=>rfl⟩) (λp hp=>⟨aI kx p hp,dB.mono (iD hp) (λ_ h=>h) λ_ _=>rfl⟩)
 let c5:Cx:={ c0 with fz:=λb o=>c0.fz b o∨a5 ρ (bH cA (e9 s (Fr c1 c2 c3)) 400) s0 (NotIn id (B2 s c1.sort c2.sort c3.sort)) b o }
 have rm5:Rm c5 LF:=rm.fz (c':=c5) rfl rfl rfl λ_ _ e=>.inl e
 have eo5:aG c5 (cI ρ id 400) ez env:=cW eo rfl λa ha=>eK (by omega) ha
 have K0:Kp (cI ρ id 400) (cI ρ id 400):=λn _ _ a ha=>ha
 -- the second row
 refine bL (fS (c:=c5) PG rm5 eo5 n1 SP λfl σ1 ρ1 s1 v hf x1 S1 r1 sm1=>?_)
 obtain ⟨hn,hf1⟩:=aH hf
 have hn:=bW hn
 dsimp only at hn hf1
 clear hf
 subst hn
 replace r1:v=Flow.next:=r1
 subst r1
 have S1:=(SR.qR S1 (cN (ν:=c0.ν) (ρ:=ρ1) hf1) zo (λp hp=>(xA hp).1.mono (λ_ h=>h) λ_ _=>rfl) (λp hp=>dB.mono (iD hp) (λ_ h=>h) λ_ _=>rfl)).i0
 have K1:=K0.step x1 (mv:=[]) (λn _=>rfl)
 generalize i8 ρ1 [] 400=ρ1' at S1 K1
 have eo5:aG c5 ρ1' ez env:=cW eo5 rfl λa ha=>K1 256 (by omega) (by omega) a ha
 -- the Hh
 refine bL (fS (c:=c5) PG rm5 eo5 n2 S1 λfl σ2 ρ2 s2 v hf x2 S2 r2 sm2=>?_)
 obtain ⟨hn,hf2⟩:=aH hf
 have hn:=bW hn
 dsimp only at hn hf2
 clear hf
 subst hn
 replace r2:v=Flow.next:=r2
 subst r2
 generalize refOf σ2.loc 474450194027=mk at hf2
 have S2:=(SR.qR S2 (cN (ν:=c0.ν) (ρ:=ρ2) hf2) Hf (λp hp=>(Hg hp).mono (λ_ h=>h) λ_ _=>rfl) (λp hp=>dB.mono (pY hp) (λ_ h=>h) λ_ _=>rfl)).i0
 have K2:=K1.step x2 (mv:=[(394,mk)]) (λn h=>YU mk n h)
 generalize i8 ρ2 [(394,mk)] 400=ρ2' at S2 K2
 have eo5:aG c5 ρ2' ez env:=cW (cW eo rfl λa ha=>eK (by omega) ha) rfl λa ha=>K2 256 (by omega) (by omega) a ha
 -- the fourth
 rw [YV]
 refine bL (wpAny_If (HV (c:=c5) PG rm5 eo5 n3 S2 λb σ3 ρ3 s3 hf x3 S3 sm3=>?_))
 have hf3:aL (aL b (qN (iB s c1.sort c2.sort c3.sort)) false) false (eA [] [] tM (BK s c1.sort c2.sort c3.sort) σ3)=true:=hf
 clear hf
 have hm3:eA [] [] tM (BK s c1.sort c2.sort c3.sort) σ3=true∧(b=true→qN (iB s c1.sort c2.sort c3.sort)=false):=by
  cases q:aL b (qN (iB s c1.sort c2.sort c3.sort)) false with
  | true=>rw [q] at hf3; cases hf3
  | false =>
   rw [q] at hf3
   exact ⟨hf3,λhb=>by rw [hb] at q; exact q⟩
 have S3:=(SR.qR S3 (cN (ν:=c0.ν) (ρ:=ρ3) hm3.1) Hf (λp hp=>(Hg hp).mono (λ_ h=>h) λ_ _=>rfl) (λp hp=>dB.mono (pY hp) (λ_ h=>h) λ_ _=>rfl)).i0
 have K3:=K2.step x3 (mv:=[]) (λn _=>rfl)
 generalize i8 ρ3 [] 400=ρ3' at S3 K3
 have hBKB:∀ p∈BK s c1.sort c2.sort c3.sort,p∈B2 s c1.sort c2.sort c3.sort∨p.1=394:=λp hp=>by
  rcases aM hp with rfl | hp
  ·exact .inr rfl
  ·exact .inl hp
 have hno:∀ p∈e9 s (Fr c1 c2 c3),p.1≠394:=λp hp=>by have:=pd hF hp; omega
 have fixK:∀ {ρ':Nm},Kp ρ ρ'→dU ρ ρ':=λk n hn a ha=>k n (by have:=eh hn; omega) (by have:=eh hn; omega) a ha
 have sm123:=sm1.trans (sm2.trans sm3)
 cases b with
 | false =>
  rw [if_neg (by decide)]
  obtain ⟨ρ4,S4,K4⟩:=back (lt:=cA) S hLS hnd S3 (λp hp=>.tail _ hp) (by nofun) hBKB (λp hp=>tO hp) hno (λp hp=>jB hF hp) (λp hp=>Hg hp) (λp hp=>pY hp) sD (λp hp=>⟨aI sD p (.tail _ hp),(by
   have:af (λp=>ic (ltN 390) eg p.2) cA=true:=by nofun
   exact dB.mono (bw (aE this p hp)) (λ_ h=>h) λ_ _=>rfl)⟩) K3
  have eo4:aG c0 ρ4 ez env:=cW eo rfl λa ha=>K4 256 (by omega) (by omega) a ha
  exact DY PG rm eo4 h1 h2 h3 S4 so λν' ρ' s4 nu S5 fx sm=>hQ ν' ρ' s4 nu S5 ((fixK K4).trans fx) (sm123.trans sm)
 | true =>
  rw [if_pos rfl]
  unfold YT at n4
  rw [hm3.2 rfl] at n4
  have n4:bc _ _=true:=n4
  have eo5:aG c5 ρ3' ez env:=cW (cW eo rfl λa ha=>eK (by omega) ha) rfl λa ha=>K3 256 (by omega) (by omega) a ha
  refine dg (c:=c5) PG rm5 eo5 n4 S3 λfl σ4 ρ4 s4 v hf x4 S4 r4 sm4=>?_
  obtain ⟨hn,hf4⟩:=aH hf
  have hn:=bW hn
  dsimp only at hn hf4
  clear hf
  subst hn
  replace r4:v=Flow.next:=r4
  subst r4
  obtain ⟨⟨i,si⟩,hi,hf5⟩:=iQ hf4
  obtain ⟨hs,hf6⟩:=aH hf5
  have hs:si=s:=ar hs
  have hcase:∃ c,((i=230∧c=c1)∨(i=233∧c=c2)∨(i=236∧c=c3))∧c.sort=s∧ae c∧(c=c1∨c=c2∨c=c3):=by
   rcases Sv (s:=s) hi with ⟨e1,e2⟩ | ⟨e1,e2⟩ | ⟨e1,e2⟩
   ·exact ⟨c1,.inl ⟨e1,rfl⟩,by rw [← e2,hs],h1,.inl rfl⟩
   ·exact ⟨c2,.inr (.inl ⟨e1,rfl⟩),by rw [← e2,hs],h2,.inr (.inl rfl)⟩
   ·exact ⟨c3,.inr (.inr ⟨e1,rfl⟩),by rw [← e2,hs],h3,.inr (.inr rfl)⟩
  obtain ⟨c,hci,hcs,hc,hcm⟩:=hcase
  obtain ⟨f1,f2,f3,f4,f5⟩:=YW hci (s:=s)
  have S4:=(SR.qR S4 (cN (ν:=c0.ν) (ρ:=ρ4) hf6) zo (λp hp=>(xA hp).1.mono (λ_ h=>h) λ_ _=>rfl) (λp hp=>dB.mono (xB (by show i<390; omega) hp) (λ_ h=>h) λ_ _=>rfl)).i0
  have K4:=K3.step x4 (mv:=[]) (λn _=>rfl)
  generalize i8 ρ4 [] 400=ρ4' at S4 K4
  have lV:∀ p∈zj i,dB (ltN 390) dP p.2:=λp hp=>by
   have hk:∀ k,k<390→dB (ltN 390) dP (.ref k):=λk hk=>by
    show (uC (ltN 390) k).map SV.ref=_
    unfold uC
    rw [show ltN 390 k=true from aC.mpr hk]; rfl
   rcases aM hp with rfl | hp
   ·exact hk _ (by show i+1<390; omega)
   ·rcases aM hp with rfl | hp
    ·exact hk _ (by show i+2<390; omega)
    ·have:af (λp=>ic (ltN 390) eg p.2) cA=true:=by nofun
     exact dB.mono (bw (aE this p hp)) (λ_ h=>h) λ_ _=>rfl
  obtain ⟨ρ5,S5,K5⟩:=back (lt:=zj i) S hLS hnd S4 (λp hp=>hp) (by nofun) (λp hp=>.inl hp) (λp hp=>tO hp) hno (λp hp=>jB hF hp) (λp hp=>(xA hp).1) (λp hp=>xB (by show i<390; omega) hp) (sE i) (λp hp=>⟨Bp i p hp,lV p hp⟩) K4
  have eo6:aG c0 ρ5 ez env:=cW eo rfl λa ha=>K5 256 (by omega) (by omega) a ha
  dsimp only
  refine sC PG rm (a:=i+1) (b:=i+2) hc eo6 hF ⟨by omega,by omega,by omega,by omega⟩ ⟨by omega,by omega,by omega⟩ f3 hLS f1 f2 (aI hnd _ (.head _)) (λp hp=>aI hnd p (.tail _ (ah.mpr (.inr hp)))) (λp hp=>aI hnd p (.tail _ (ah.mpr (.inl hp))))
   (Bq (λp hp=>Bp i p (.tail _ (.tail _ hp))) (by nofun) (by nofun)) S5 (hP c hcm hcs) (λν' ρ' s5 nu S6 fx sm=>hQ ν' ρ' s5 nu S6 ((fixK K5).trans fx) ((sm123.trans sm4).trans sm))
theorem Sw {P:Params} {ν ν':Nat→Int} {hG:Heap} {fz:Addr→Obj→Prop} {L:Addr} {ρ ρ1:Nm} {s s':Shared} {l:List (Nat×SV)} {LS B F:List (Nat×SO)} (S:SR P ν hG fz L ρ (bH l LS 400) s) (hS:dQ LS 400) (hF:iA F)
 (hLF:∀ p∈F,lk LS p.1=some p.2) (hBF:∀ p∈F,NotIn id B p.1)
 (S1:SR P ν' hG (λb o=>fz b o∨a5 ρ (bH l LS 400) s (NotIn id B) b o) L ρ1 (bH [] tb 400) s') (fx:YR (cI ρ id 400) ρ1) :
 ∃ ρ2,SR P ν' hG fz L ρ2 (bH [] (RM.app F tb) 400) s'∧dU ρ ρ2:=by
 let Fb:Nat→Bool:=λn=>aL (Nat.blt n 400) (aL (Nat.beq n 393) false (aL (bM n dT) false true)) false
 have Fb_ok:∀ n,Fb n=true→n<400∧n≠393∧bM n dT=false:=λn hn=>by
  obtain ⟨h1,h2⟩:=aH hn
  refine ⟨aC.mp h1,λe=>?_,?_⟩
  ·subst e; cases h2
  ·cases q:Nat.beq n 393 with
   | true=>rw [q] at h2; cases h2
   | false =>
    rw [q] at h2
    cases w:bM n dT with
    | false=>rfl
    | true=>rw [w] at h2; cases h2
 have Fb_of:∀ n,n<400→n≠393→bM n dT=false→Fb n=true:=λn h1 h2 h3=>by
  show aL (Nat.blt n 400) (aL (Nat.beq n 393) false (aL (bM n dT) false true)) false=true
  have q:Nat.beq n 393=false:=by
   cases q:Nat.beq n 393 with
   | false=>rfl
   | true=>exact absurd (ar q) h2
  rw [show Nat.blt n 400=true from aC.mpr h1,q,h3]; rfl
 have hLt:dQ (RM.app F tb) 400:=⟨λp hp=>by
  rcases ah.mp hp with hp | hp
  ·have:=bj (hF.nm p hp); omega
  ·exact d5.lt p hp,by omega⟩
 obtain ⟨S2,up⟩:=eW (f:=id) (F:=Fb) (G:=gB) (H:=ltN 223) (D:=eg) (Lt:=RM.app F tb) (lt:=[]) S hS S1 d5 Bm (λp _ q _ h=>h) (λp hp=>d5.lt p hp) hLt
  (λn hn=>by obtain ⟨h1,h2,h3⟩:=Fb_ok n hn; exact ⟨h1,λx hx=>fx n h1 h2 h3 x hx⟩)
  (λn hn=>by
   have hn:=aC.mp hn
   cases q:bS tb n with
   | true=>obtain ⟨p,hp,e⟩:=iU q; exact .inl ⟨p,hp,e⟩
   | false=>exact .inr ⟨Fb_of n (by omega) (by omega) (ku q),λp hp e=>kr q p hp e,by show n<400; omega⟩)
  (λn hn=>by
   have hlt:=eh hn
   unfold gB at hn
   cases q:bM n Ke with
   | true =>
    have hf:=bj q
    exact ⟨by omega,.inl λp hp e=>by have:=au hp; have e:p.1=n:=e; omega⟩
   | false =>
    rw [q] at hn
    have hn:bM n stN=true:=hn
    obtain ⟨⟨p,hp,rfl⟩,h2⟩:=Bn hn
    exact ⟨by omega,.inr ⟨p,hp,rfl,Fb_of _ (by omega) (by omega) h2⟩⟩)
  (λp hp=>by
   rcases ah.mp hp with hp | hp
   ·have hf:=bj (hF.nm p hp)
    exact .inr ⟨hBF p hp,λq hq e=>by have:=au hq; have e:q.1=p.1:=e; omega,hLF p hp,hF.of p hp⟩
   ·refine .inl ⟨p,hp,rfl,(bQ (aE hZ p hp)).sA λn hn=>by rw [hn]; rfl⟩)
  (λp hp=>nomatch hp) (λp hp=>(eY hp).mono (λ_ _=>rfl) (bB (by omega))) (λp hp=>nomatch hp) rfl (λn hn=>nomatch hn)
 exact ⟨_,S2,up⟩
def cst (i:Nat):Stmt:=(Az P).body.getD i (.Pass default)
def YX:CE:=⟨Ay,[]⟩
noncomputable def Hi:List (Nat×SV):=[(1701863796,.ref 89),(495740282211,.ref 95),(7239535,.ref 90)]
noncomputable def pe:List (Nat×SV):=(1818324839,.ref 391)::(111477796466547,.ref 392)::Hi
noncomputable def xC:Nat:=7827314
def c1B:Bool:=bc (λp=>aL (cB p.1)
 (Option.rec (motive:=λ_=>Bool) false (λg=>Option.rec (motive:=λ_=>Bool) false (λq=>aL (Nat.beq g.sort xC) (aL (Nat.beq q.sort xC)
  (eA [(391,refOf p.2.loc 1818324839),(392,refOf p.2.loc 111477796466547)] [] pe ((391,.list g.path)::(392,.list q.path)::d4) p.2) false) false)
  (lk ax (fu p.2 (.ref (refOf p.2.loc 111477796466547))))) (lk ax (fu p.2 (.ref (refOf p.2.loc 1818324839))))) false)
 ((lw P).S YX (cst P 0) (bH Hi d4 400))
def QS:List Stmt:=[cst P 1,cst P 2,cst P 3,cst P 4,cst P 5,cst P 6,cst P 7]
def tP (g q:Cfg):Bool:=bc (KY tb) (bG (lw P) YX (QS P) (bH pe ((391,.list g.path)::(392,.list q.path)::tb) 400))
theorem Kl:(Az P).body=cst P 0::QS P:=by nofun
theorem Km:af (λp=>ic (ltN 390) eg p.2) Hi=true:=by nofun
theorem xD:af (λp=>ic (ltN 400) eg p.2) pe=true:=by nofun
theorem pf:bP pe=true:=by nofun
theorem Hj {p:Nat×SO} (h:p∈d4):p.1<223:=au (tb_mem.mpr (.inl h))
theorem Sx {c0:Cx} {mg mb:Str→Option Value} (PG:aY (cG c0.w.params) (KK c0.w.params) mg mb c0.hG) (rm:Rm c0 (LF+1)) {ρ:Nm} {c1 c2 c3:Cfg} (h1:ae c1) (h2:ae c2) (h3:ae c3) {s0:Shared} {l0:List (Nat×SV)}
 (S:c0.SR ρ (bH l0 (e9 cut (Fr c1 c2 c3)) 400) s0) {vs:List Value} (hv:bX c0.ν ρ [.ref 89,.ref 95,.ref 90] vs) (hc1:c1B c0.w.params=true)
 (hc2:∀ g∈ax,∀ q∈ax,g.2.sort=xC→q.2.sort=xC→tP c0.w.params g.2 q.2=true) {Q E:Value→Shared→Prop}
 (hQ:∀ ν' ρ' s1,eE ν'→SR c0.w.params ν' c0.hG c0.fz c0.L ρ' (bH [] (RM.app (Fr c1 c2 c3) tb) 400) s1→dU ρ ρ'→aT s0 s1→Q (.bool true) s1):wpAny c0.M c0.A (call (.ref 745) vs) Q E s0:=by
 have hF:=iz h1 h2 h3
 have hLS:dQ (e9 cut (Fr c1 c2 c3)) 400:=tN hF
 have hnd:=pZ cut c1 c2 c3
 refine ze (c:=c0) (σ1:=bH (a7 Ay Fy [.ref 89,.ref 95,.ref 90] []) (e9 cut (Fr c1 c2 c3)) 400) (cs:=[]) PG (by have:=rm.depth; omega) (Fz c0.w.params) hv (by nofun) (by nofun) S λenv ρ1 s1 oL C E' hL rmI eo x1 S1 sm1=>?_
 have rm1:Rm (c0.bo env oL C) LF:=rmI _ rm
 have eo:aG (c0.bo env oL C) ρ1 YX env:=eo
 rw [Kl]
 have tbTmem:∀ p∈d4,p∈e9 cut (Fr c1 c2 c3):=λp hp=>.tail _ (ah.mpr (.inr (tb_mem.mpr (.inl hp))))
 have SP:=dh S1 hLS (B:=d4) (lB:=Hi) (λp hp=>⟨aI hnd p (tbTmem p hp),(jB hF (tbTmem p hp)).mono (bB (by omega)) λ_ _=>rfl⟩) (λp hp=>⟨by
  simp only [Hi,List.mem_cons,List.mem_nil_iff,or_false] at hp
  rcases hp with rfl | rfl | rfl<;>nofun,dB.mono (bw (aE Km p hp)) (bB (by omega)) λ_ _=>rfl⟩)
 let c5:Cx:={ c0.bo env oL C with fz:=λb o=>(c0.bo env oL C).fz b o∨a5 ρ1 (bH (a7 Ay Fy [.ref 89,.ref 95,.ref 90] []) (e9 cut (Fr c1 c2 c3)) 400) s1 (NotIn id d4) b o }
 have eo5:aG c5 (cI ρ1 id 400) YX env:=eo.move rfl λx k e a ha=>nomatch e
 refine bL (fS (c:=c5) PG (rm1.fz rfl rfl rfl λ_ _ e=>by first | exact e | exact .inl e) eo5 hc1 SP λfl σ2 ρ2 s2 v hf x2 S2 r2 sm2=>?_)
 obtain ⟨hn,hf2⟩:=aH hf
 have hn:=bW hn
 dsimp only at hn hf2
 clear hf
 subst hn
 replace r2:v=Flow.next:=r2
 subst r2
 dsimp only
 cases hg:lk ax (fu σ2 (.ref (refOf σ2.loc 1818324839))) with
 | none=>rw [hg] at hf2; cases hf2
 | some g =>
 rw [hg] at hf2
 dsimp only at hf2
 cases hq:lk ax (fu σ2 (.ref (refOf σ2.loc 111477796466547))) with
 | none=>rw [hq] at hf2; cases hf2
 | some q =>
 rw [hq] at hf2
 dsimp only at hf2
 obtain ⟨gs,hf3⟩:=aH hf2
 obtain ⟨qs,hf4⟩:=aH hf3
 have gs:=ar gs
 have qs:=ar qs
 have hgc:ae g:=iT (aE eJ _ (aZ hg))
 have hqc:ae q:=iT (aE eJ _ (aZ hq))
 have hcc:=hc2 _ (aZ hg) _ (aZ hq) gs qs
 generalize refOf σ2.loc 1818324839=ma at hf4
 generalize refOf σ2.loc 111477796466547=mb' at hf4
 have M:=cN (ν:=c0.ν) (ρ:=ρ2) hf4
 have hlk:∀ n,n≠391→n≠392→lk [(391,ma),(392,mb')] n=none:=λn h1 h2=>by
  rw [aQ,if_neg (λe=>h1 e.symm),aQ,if_neg (λe=>h2 e.symm)]; rfl
 have unm:∀ n,n<391→tK 400 [(391,ma),(392,mb')] n=true:=λn hn=>by
  unfold tK bS
  rw [show Nat.blt n 400=true from aC.mpr (by omega),hlk n (by omega) (by omega)]; rfl
 have unm':∀ n,ltN 390 n=true→tK 400 [(391,ma),(392,mb')] n=true:=λn hn=>unm n (by have:=aC.mp hn; omega)
 have hLS':dQ ((391,SO.list g.path)::(392,.list q.path)::e9 cut (Fr c1 c2 c3)) 400:=(hLS.cons (by omega)).cons (by omega)
 have hB'k:dQ ((391,SO.list g.path)::(392,.list q.path)::d4) 400:=dQ.cons (dQ.cons ⟨λp hp=>by have:=Hj hp; omega,by omega⟩ (by omega)) (by omega)
 have noC:Of eg eg (.list g.path):=hgc.path
 obtain ⟨S3,up3⟩:=eV (Lt:=(391,.list g.path)::(392,.list q.path)::e9 cut (Fr c1 c2 c3)) (lt:=pe) S1 hLS S2 x2 M hB'k (λr hr=>by
  rcases aM hr with rfl | hr
  ·exact ⟨_,.head _,rfl⟩
  ·rw [aj hr]
   exact ⟨_,.tail _ (.head _),rfl⟩) hLS' (λp hp=>by
  rcases aM hp with rfl | hp
  ·exact .inl ⟨.head _,hgc.path.mono (λn hn=>nomatch hn) (λn hn=>nomatch hn)⟩
  ·rcases aM hp with rfl | hp
   ·exact .inl ⟨.tail _ (.head _),hqc.path.mono (λn hn=>nomatch hn) (λn hn=>nomatch hn)⟩
   ·have ho:=jB hF hp
    by_cases w:p∈d4
    ·exact .inl ⟨.tail _ (.tail _ w),ho.mono (bB (by omega)) λ_ _=>rfl⟩
    ·have no:ix d4 p.1:=λr hr e=>by
      have e1:=aI hnd r (tbTmem r hr)
      rw [e,aI hnd p hp] at e1
      have:r=p:=by cases r; cases p; simp only at e e1; rw [e,aD e1]
      exact w (this▸hr)
     refine .inr ⟨no,λr hr e=>?_,aI hnd p hp,ho.mono unm' λ_ _=>rfl⟩
     have:=pd hF hp
     rcases aM hr with rfl | hr
     ·have e:391=p.1:=e
      omega
     ·rcases aM hr with rfl | hr
      ·have e:392=p.1:=e
       omega
      ·exact no r hr e)
  (λp hp=>⟨aI pf p hp,dB.mono (bw (aE xD p hp)) (λ_ h=>h) λ_ _=>rfl⟩)
 generalize eD ρ1 ρ2 id [(391,ma),(392,mb')] ((391,.list g.path)::(392,.list q.path)::d4) 400=ρ3 at S3 up3
 have S3:=S3.i0
 have big:∀ p∈e9 cut (Fr c1 c2 c3),lk ((391,SO.list g.path)::(392,.list q.path)::e9 cut (Fr c1 c2 c3)) p.1=some p.2:=λp hp=>by
  have:=pd hF hp
  exact bq (bq (aI hnd p hp) (by omega)) (by omega)
 have SP2:=dh S3 hLS' (B:=(391,SO.list g.path)::(392,.list q.path)::tb) (lB:=pe) (λp hp=>by
  rcases aM hp with rfl | hp
  ·exact ⟨rfl,hgc.path.mono (λn hn=>nomatch hn) (λn hn=>nomatch hn)⟩
  ·rcases aM hp with rfl | hp
   ·exact ⟨rfl,hqc.path.mono (λn hn=>nomatch hn) (λn hn=>nomatch hn)⟩
   ·exact ⟨big p (.tail _ (ah.mpr (.inr hp))),pW hp⟩) (λp hp=>⟨aI pf p hp,dB.mono (bw (aE xD p hp)) (λ_ h=>h) λ_ _=>rfl⟩)
 let c6:Cx:={ c0.bo env oL C with fz:=λb o=>(c0.bo env oL C).fz b o∨a5 ρ3 (bH pe ((391,SO.list g.path)::(392,.list q.path)::e9 cut (Fr c1 c2 c3)) 400) s2 (NotIn id ((391,SO.list g.path)::(392,.list q.path)::tb)) b o }
 have eo6:aG c6 (cI ρ3 id 400) YX env:=eo.move rfl λx k e a ha=>nomatch e
 refine dg (c:=c6) PG (rm1.fz rfl rfl rfl λ_ _ e=>by first | exact e | exact .inl e) eo6 hcc SP2 λfl σ4 ρ4 s4 v hf x4 S4 r4 sm4=>?_
 unfold KY at hf
 obtain ⟨g1,hf⟩:=aH hf
 obtain ⟨g2,g3⟩:=aH hf
 have g1:=jA g1
 dsimp only at g1 g2 g3
 subst g1
 obtain ⟨u,rfl,hu⟩:=r4
 replace hu:u=.bool true:=hu
 subst hu
 have M4:=cN (ν:=c0.ν) (ρ:=ρ4) g3
 have S5:=SR.qR S4 M4 d5 (λp hp=>pW hp) (λp hp=>nomatch hp)
 obtain ⟨ρ6,S6,fx6⟩:=Sw S3 hLS' hF (λp hp=>big p (.tail _ (ah.mpr (.inl hp)))) (λp hp r hr e=>by
  have hf:=bj (hF.nm p hp)
  have e:r.1=p.1:=e
  rcases aM hr with rfl | hr
  ·have e:391=p.1:=e
   omega
  ·rcases aM hr with rfl | hr
   ·have e:392=p.1:=e
    omega
   ·have:=au hr; omega) S5 (λn h1 h2 h3 a ha=>by
  have e2:=x4 n a ha
  have hmv:lk (mX σ4) n=none:=by
   cases qq:lk (mX σ4) n with
   | none=>rfl
   | some k =>
    have:=aE g2 _ (aZ qq)
    dsimp only at this
    rw [h3] at this; cases this
  exact iC h1 hmv e2)
 have S7:=SR.tC (l:=[]) S6 S hL (λx sv e=>nomatch e)
 exact hQ _ ρ6 s4 (eE.mt ⟨c0.νb,c0.νs⟩ M4.b) S7 (λn hn a ha=>fx6 n hn a (up3 n (unm n (by have:=eh hn; omega)) a (x1 n a ha))) (sm1.trans (sm2.trans sm4))
theorem SR.tQ {P:Params} {ν:Nat→Int} {hG:Heap} {fz:Addr→Obj→Prop} {L:Addr} {ρ:Nm} {s:Shared} {l:List (Nat×SV)} {T:List (Nat×SO)} {nx nx':Nat} (S:SR P ν hG fz L ρ (bH l T nx) s) (h:nx≤nx'):SR P ν hG fz L ρ (bH l T nx') s :=
 ⟨S.fzk,S.fc,S.gk,S.gd,S.loc,S.Lf,S.hp,S.inj,λn a e=>Nat.lt_of_lt_of_le (S.dom n a e) h⟩
theorem Met.self {ν:Nat→Int} {ρ:Nm} {l:List (Nat×SV)} {T:List (Nat×SO)} {nx:Nat} (hT:dQ T nx) (hl:bP l=true) (hk:bP T=true) (ol:∀ p∈l,dB dP (ltN 100) p.2) (oT:∀ p∈T,Of dP (ltN 100) p.2):Met ν ρ [] [] l T (bH l T nx):=by
 have mr:∀ n m,uC dP n=some m→rF [] n=some m:=λn m e=>by obtain ⟨rfl,_⟩:=b8 e; rfl
 have mt:∀ n m,Iy (ltN 100) n=some m→tF [] n=some m:=λn m e=>by
  obtain ⟨rfl,h⟩:=b9 e
  unfold tF
  have h:Nat.blt n 100=true:=h
  rw [h]; rfl
 refine ⟨λp hp=>⟨p.2,aI hl p hp,bh mr mt (ol p hp)⟩,λp hp=>⟨p.1,p.2,rfl,by rw [c7 hT]; exact aI hk p hp,iS mr mt (oT p hp)⟩,λp hp q hq _ _ m e1 e2=>?_,rfl⟩
 cases e1
 exact (aD e2).symm
abbrev cX (F:List (Nat×SO)):List (Nat×SO):=RM.app F tb
theorem fV (c1 c2 c3:Cfg):bP (cX (Fr c1 c2 c3))=true:=by nofun
theorem zr {F:List (Nat×SO)} (hF:iA F) {p:Nat×SO} (hp:p∈cX F):p.1<239:=by
 rcases ah.mp hp with hp | hp
 ·have:=bj (hF.nm p hp); omega
 ·have:=au hp; omega
theorem ky {F:List (Nat×SO)} (hF:iA F) {p:Nat×SO} (hp:p∈cX F):Of (ltN 239) (ltN 36) p.2:=by
 rcases ah.mp hp with hp | hp
 ·exact (hF.of p hp).mono (λn hn=>aC.mpr (eh hn)) λn hn=>nomatch hn
 ·exact Of.mono (b:=ltN 223) (d:=ltN 36) (bQ (aE (by nofun:af (λp=>Sh (ltN 223) (ltN 36) p.2) tb=true) p hp)) (bB (by omega)) λ_ h=>h
theorem cY {F:List (Nat×SO)} (hF:iA F) {nx:Nat} (h:239≤nx) (h':nx≤1024):dQ (cX F) nx:=⟨λp hp=>by have:=zr hF hp; omega,h'⟩
theorem kz {sv:SV} (h:dB gB eg sv):dB (ltN 239) eg sv:=dB.mono h (λn hn=>aC.mpr (eh hn)) λ_ h=>h
theorem SR.shrink {P:Params} {ν:Nat→Int} {hG:Heap} {fz:Addr→Obj→Prop} {L:Addr} {ρ:Nm} {s:Shared} {l:List (Nat×SV)} {F:List (Nat×SO)} (hF:iA F) (hk:bP (cX F)=true) (hl:bP l=true) (ol:∀ p∈l,dB gB eg p.2) {nx:Nat} (hnx:239≤nx∧nx≤1024)
 (S:SR P ν hG fz L ρ (bH l (cX F) nx) s):∃ ρ',SR P ν hG fz L ρ' (bH l (cX F) 256) s∧dU ρ ρ':=by
 have M:=Met.self (ν:=ν) (ρ:=ρ) (cY hF hnx.1 hnx.2) hl hk (λp hp=>dB.mono (ol p hp) (λ_ _=>rfl) λn hn=>nomatch hn) (λp hp=>(ky hF hp).mono (λ_ _=>rfl) (bB (by omega)))
 refine ⟨_,(SR.qR S M (cY hF (nx:=256) (by omega) (by omega)) (λp hp=>(ky hF hp).mono (bB (by omega)) λ_ _=>rfl) (λp hp=>dB.mono (kz (ol p hp)) (bB (by omega)) λ_ _=>rfl)).i0,λn hn a ha=>iC (by have:=eh hn; omega) rfl ha⟩
noncomputable def tR:Stmt→Expr×List Expr×Pos×Pos×Pos
 | .If _ [.Return (some (.Call f a _ p)) p'] _ p''=>(f,a,p,p',p'')
 | _=>(.Constant .none 0 default,[],default,default,default)
theorem YY:dst P 1=.If (KW (dst P 1)).1 [.Return (some (.Call (tR (dst P 1)).1 (tR (dst P 1)).2.1 [] (tR (dst P 1)).2.2.1)) (tR (dst P 1)).2.2.2.1] [] (tR (dst P 1)).2.2.2.2:=by nofun
theorem Kn (c1 c2 c3:Cfg):(lw P).B ez (KW (dst P 1)).1 (bH cA (e9 cut (Fr c1 c2 c3)) 400)=some [(true,bH cA (e9 cut (Fr c1 c2 c3)) 400)]:=by nofun
theorem YZ (c1 c2 c3:Cfg):(lw P).E ez (tR (dst P 1)).1 (bH cA (e9 cut (Fr c1 c2 c3)) 400)=some [(.kref 745,bH cA (e9 cut (Fr c1 c2 c3)) 400)]:=by nofun
theorem Ko (c1 c2 c3:Cfg):qF (lw P) ez (tR (dst P 1)).2.1 (bH cA (e9 cut (Fr c1 c2 c3)) 400)=some [([.ref 89,.ref 95,.ref 90],bH cA (e9 cut (Fr c1 c2 c3)) 400)]:=by nofun
theorem zt:bO (tR (dst P 1)).2.1=true:=by nofun
theorem zu:notAttr (tR (dst P 1)).1=true:=by nofun
theorem Sy (c1 c2 c3:Cfg):∃ t f a p p' p'',dst P 1=.If t [.Return (some (.Call f a [] p)) p'] [] p''∧(lw P).B ez t (bH cA (e9 cut (Fr c1 c2 c3)) 400)=some [(true,bH cA (e9 cut (Fr c1 c2 c3)) 400)]∧(lw P).E ez f (bH cA (e9 cut (Fr c1 c2 c3)) 400)=some [(.kref 745,bH cA (e9 cut (Fr c1 c2 c3)) 400)]∧qF (lw P) ez a (bH cA (e9 cut (Fr c1 c2 c3)) 400)=some [([.ref 89,.ref 95,.ref 90],bH cA (e9 cut (Fr c1 c2 c3)) 400)]∧bO a=true∧notAttr f=true :=
 ⟨_,_,_,_,_,_,YY P,Kn P c1 c2 c3,YZ P c1 c2 c3,Ko P c1 c2 c3,zt P,zu P⟩
theorem Kr:(A0 P).body=dst P 0::dst P 1::dst P 2::dst P 3::dst P 4::ry P:=by nofun
structure ph (P:Params) (c1 c2 c3:Cfg):Prop where
 p1:p1B P=true
 so:∀ s∈six,s≠cut→zq P s
 nb:∀ s∈six,s≠cut→nC P s c1.sort c2.sort c3.sort=true
 pc:∀ c,(c=c1∨c=c2∨c=c3)→P5 P c.sort c
 c1:c1B P=true
 c2:∀ g∈ax,∀ q∈ax,g.2.sort=xC→q.2.sort=xC→tP P g.2 q.2=true
abbrev Sz:List (Nat×SV):=a7 F0 NC [.ref 79,.ref 89,.ref 95,.ref 90,.ref 223] []
theorem Ks:∀ p∈cA,lk Sz p.1=some p.2:=λp hp=>by
 simp only [cA,List.mem_cons,List.mem_nil_iff,or_false] at hp
 rcases hp with rfl | rfl | rfl | rfl | rfl<;>nofun
theorem Kt:af (λp=>ic gB eg p.2) cA=true:=by nofun
theorem Ku {c:Cx} {mg mb:Str→Option Value} (PG:aY (cG c.w.params) (KK c.w.params) mg mb c.hG) (rm:Rm c (LF+2)) {ρ:Nm} {c1 c2 c3:Cfg} (h1:ae c1) (h2:ae c2) (h3:ae c3) {s0:Shared} {l:List (Nat×SV)} (hl:bP l=true) (ol:∀ p∈l,dB gB eg p.2)
 (S:c.SR ρ (bH l (cX (Fr c1 c2 c3)) 256) s0) {vs:List Value} (hv:bX c.ν ρ [.ref 79,.ref 89,.ref 95,.ref 90,.ref 223] vs) (D:ph c.w.params c1 c2 c3) {Q E:Value→Shared→Prop}
 (hQ:∀ ν' ρ' s1,eE ν'→SR c.w.params ν' c.hG c.fz c.L ρ' (bH l (cX (Fr c1 c2 c3)) 256) s1→dU ρ ρ'→aT s0 s1→Q (.bool true) s1):wpAny c.M c.A (call (.ref 750) vs) Q E s0:=by
 have hF:=iz h1 h2 h3
 refine ze (c:=c) (σ1:=bH Sz ((256,.cell none)::cX (Fr c1 c2 c3)) 257) (cs:=[(1953656691,256)]) PG (by have:=rm.depth; omega) (F1 c.w.params) hv (by nofun) (by nofun) S λenv ρ1 s1 oL C E' hL rmI eo x1 S1 sm1=>?_
 have rm1:Rm (c.bo env oL C) (LF+1):=rmI _ rm
 have rm0:Rm (c.bo env oL C) LF:=rm1.le (Nat.le_succ _)
 have eo:aG (c.bo env oL C) ρ1 ez env:=eo
 rw [Kr]
 have hLS0:dQ ((256,.cell none)::cX (Fr c1 c2 c3)) 257:=(cY hF (by omega) (by omega)).cons (by omega)
 have hnd0:bP (((256,.cell none):Nat×SO)::cX (Fr c1 c2 c3))=true:=by nofun
 have memT:∀ p∈d4,p∈cX (Fr c1 c2 c3):=λp hp=>ah.mpr (.inr (tb_mem.mpr (.inl hp)))
 have mem0:∀ p∈((256,.cell none):Nat×SO)::d4,p∈((256,.cell none):Nat×SO)::cX (Fr c1 c2 c3):=λp hp=>by
  rcases aM hp with rfl | hp
  ·exact .head _
  ·exact .tail _ (memT p hp)
 have of0:∀ p∈((256,.cell none):Nat×SO)::cX (Fr c1 c2 c3),Of (ltN 239) (ltN 36) p.2:=λp hp=>by
  rcases aM hp with rfl | hp
  ·rfl
  ·exact ky hF hp
 have lD:∀ p∈cA,dB (ltN 239) eg p.2:=λp hp=>kz (bw (aE Kt p hp))
 -- the first row
 have SP:=dh S1 hLS0 (B:=(256,.cell none)::d4) (lB:=cA) (λp hp=>⟨aI hnd0 p (mem0 p hp),(of0 p (mem0 p hp)).mono (bB (by omega)) λ_ _=>rfl⟩) (λp hp=>⟨Ks p hp,dB.mono (lD p hp) (bB (by omega)) λ_ _=>rfl⟩)
 let c5:Cx:={ c.bo env oL C with fz:=λb o=>(c.bo env oL C).fz b o∨a5 ρ1 (bH Sz ((256,.cell none)::cX (Fr c1 c2 c3)) 257) s1 (NotIn id (((256,.cell none):Nat×SO)::d4)) b o }
 have eo5:aG c5 (cI ρ1 id 257) ez env:=cW eo rfl λa ha=>eK (by omega) ha
 refine bL (fS (c:=c5) PG (rm0.fz rfl rfl rfl λ_ _ e=>by first | exact e | exact .inl e) eo5 D.p1 SP λfl σ2 ρ2 s2 v hf x2 S2 r2 sm2=>?_)
 obtain ⟨hn,hf2⟩:=aH hf
 have hn:=bW hn
 dsimp only at hn hf2
 clear hf
 subst hn
 replace r2:v=Flow.next:=r2
 subst r2
 dsimp only
 obtain ⟨s,hs,hf3⟩:=iQ hf2
 have M:=cN (ν:=c.ν) (ρ:=ρ2) hf3
 have hLS1:dQ (e9 s (Fr c1 c2 c3)) 257:=(cY hF (by omega) (by omega)).cons (by omega)
 have hB':dQ (bN s::d4) 257:=dQ.cons ⟨λp hp=>by have:=Hj hp; omega,by omega⟩ (by omega)
 obtain ⟨S3,up3⟩:=eV (Lt:=e9 s (Fr c1 c2 c3)) (lt:=cA) S1 hLS0 S2 x2 M hB' (λq hq=>nomatch hq) hLS1 (λp hp=>by
  rcases aM hp with rfl | hp
  ·exact .inl ⟨.head _,hY s⟩
  ·have ho:=ky hF hp
   have hlt:=zr hF hp
   by_cases w:p∈d4
   ·exact .inl ⟨.tail _ w,ho.mono (bB (by omega)) λ_ _=>rfl⟩
   ·have no:ix d4 p.1:=λq hq e=>by
     have e1:=aI hnd0 q (.tail _ (memT q hq))
     rw [e,aI hnd0 p (.tail _ hp)] at e1
     have:q=p:=by cases q; cases p; simp only at e e1; rw [e,aD e1]
     exact w (this▸hq)
    refine .inr ⟨λq hq e=>?_,λq hq e=>?_,aI hnd0 p (.tail _ hp),ho.mono (λn hn=>?_) λ_ _=>rfl⟩
    ·rcases aM hq with rfl | hq
     ·have e:256=p.1:=e
      omega
     ·exact no q hq e
    ·rcases aM hq with rfl | hq
     ·have e:256=p.1:=e
      omega
     ·exact no q hq e
    ·have hn:=aC.mp hn
     unfold tK
     rw [show Nat.blt n 257=true from aC.mpr (by omega)]; rfl)
  (λp hp=>⟨aI kx p hp,dB.mono (lD p hp) (bB (by omega)) λ_ _=>rfl⟩)
 generalize eD ρ1 ρ2 id [] (bN s::d4) 257=ρ3 at S3 up3
 have S3:=(S3.i0).tQ (nx':=400) (by omega)
 have up:∀ n,n<257→∀ a,ρ1 n=some a→ρ3 n=some a:=λn hn a ha=>up3 n (by
  unfold tK
  rw [show Nat.blt n 257=true from aC.mpr (by omega)]; rfl) a ha
 have eo3:aG (c.bo env oL C) ρ3 ez env:=cW eo rfl λa ha=>up 256 (by omega) a ha
 have fixA:dU ρ ρ3:=λn hn a ha=>up n (by have:=eh hn; omega) a (x1 n a ha)
 -- leaving
 have leave:∀ (ν':Nat→Int) (ρ':Nm) (s':Shared),eE ν'→SR c.w.params ν' c.hG (c.bo env oL C).fz (c.bo env oL C).L ρ' (bH [] (cX (Fr c1 c2 c3)) 400) s'→dU ρ3 ρ'→aT s0 s'→Q (.bool true) s':=λν' ρ' s' nu S' fx sm=>by
  have fx':=fixA.trans fx
  have S4:=SR.tC (l:=l) S' S hL (λx sv e=>⟨sv,e,λv hv=>(ol _ (aZ e)).vr fx' (λn hn=>nomatch hn) hv⟩)
  obtain ⟨ρ5,S5,fx5⟩:=SR.shrink hF (fV c1 c2 c3) hl ol (nx:=400) ⟨by omega,by omega⟩ S4
  exact hQ ν' ρ5 s' nu S5 (fx'.trans fx5) sm
 by_cases hcut:s=cut
 ·subst hcut
  obtain ⟨t,f,a,p,p',p'',k1,k2,k3,k4,k5,k6⟩:=Sy c.w.params c1 c2 c3
  rw [k1]
  have okE:=cP ⟨c.prog,c.w,c.ν,c.hG⟩ (cV PG) rfl LF
  refine bL (wpAny_If (okE.B (c.bo env oL C) ρ3 ez env _ ⟨rfl,rfl,rfl,rfl⟩ rm0 eo3 _ _ k2 ρ3 s2 (.refl _) S3 _ _ λy σ4 ρ4 s4 b hm x4 S4 r4 sm4=>?_))
  rcases aj hm with h
  cases h
  subst r4
  rw [if_pos rfl]
  have eo4:aG (c.bo env oL C) ρ4 ez env:=cW eo3 rfl λa ha=>x4 _ _ ha
  refine bL (wpAny_Return_some (jr (c:=c.bo env oL C) PG rm0 eo4 k5 k6 (Fz c.w.params).kp k3 k4 S4 λρ5 s5 us x5 S5 hu sm5=>?_))
  refine Sx (c0:=c.bo env oL C) PG rm1 h1 h2 h3 S5 hu D.c1 D.c2 λν' ρ' s6 nu S6 fx sm6=>?_
  exact leave ν' ρ' s6 nu S6 (λn hn a ha=>fx n hn a (x5 _ _ (x4 _ _ ha))) ((sm1.trans sm2).trans (sm4.trans (sm5.trans sm6)))
 ·refine Kk (c0:=c.bo env oL C) PG rm0 eo3 h1 h2 h3 S3 (D.so s hs hcut) (D.nb s hs hcut) (λk hk hks=>by rw [← hks]; exact D.pc k hk) λν' ρ' s6 nu S6 fx sm6=>?_
  exact leave ν' ρ' s6 nu S6 fx ((sm1.trans sm2).trans sm6)
def k7 (c:Cfg):Bool:=af (λq:Nat×Cfg=>aL (Nat.beq q.2.sort c.sort) (ZO P c.sort c q.2.val q.2.nums) true) ax
theorem cE {P:Params} {c:Cfg} (h5:YM P c.sort=true) (h6:k7 P c=true):P5 P c.sort c:=by
 refine ⟨RM.app d4 kI,.inr rfl,Sp c.sort,h5,λσ1 hf=>?_⟩
 unfold Sp at hf
 cases hck:lk ax (fu σ1 (.ref (refOf σ1.loc 111477796466547))) with
 | none=>rw [hck] at hf; cases hf
 | some j =>
  rw [hck] at hf
  obtain ⟨hs,hf3⟩:=aH hf
  have hs:=ar hs
  have hj:ae j:=iT (aE eJ _ (aZ hck))
  have h:=aE h6 _ (aZ hck)
  dsimp only at h
  rw [hs,Nat.beq_refl] at h
  exact ⟨_,[],j.val,j.nums,hf3,λn hn=>rfl,hj.nums.mono (λ_ h=>h) λ_ _=>rfl,dB.mono hj.val (λ_ h=>h) λ_ _=>rfl,h⟩
noncomputable def aAx:List Int:=[-12,-11,-10,10,11,12]
def fy (c:Cfg):Bool:=aL (ZO P c.sort c (.int (.v 36)) [.int (.v 36)]) (af (λk=>ZO P c.sort c (.int (.c k)) [.int (.c k)]) aAx) false
theorem av {P:Params} {c:Cfg} (hc:c.sort=125779768604014) (h5:YN P=true) (h6:fy P c=true):P5 P c.sort c:=by
 unfold fy at h6
 obtain ⟨g1,g2⟩:=aH h6
 rw [hc] at g1 g2 ⊢
 refine ⟨d4,.inl rfl,HZ,h5,λσ1 hf=>?_⟩
 unfold HZ at hf
 cases hb:fh (intOf σ1.loc 435761734006) with
 | true =>
  rw [hb] at hf
  have hf:eA _ _ _ _ _=true:=hf
  refine ⟨_,_,.int (.v 36),_,hf,λn hn=>?_,rfl,rfl,g1⟩
  have hn:=aC.mp hn
  unfold bS
  rw [aQ,if_neg (by omega)]; rfl
 | false =>
  rw [hb] at hf
  obtain ⟨h1,hf2⟩:=aH hf
  obtain ⟨k,hk,he⟩:=iQ h1
  have he:=uo he
  rw [← he] at hf2
  exact ⟨_,[],.int (.c k),_,hf2,λn hn=>rfl,rfl,rfl,aE g2 k hk⟩
theorem aAy:p1B P=true:=by nofun
theorem Hk:Td P 7305076=true:=by nofun
theorem Hl:Td P 7892834=true:=by nofun
theorem DZ:Td P 1919508848=true:=by nofun
theorem Hm:Td P 7827314=true:=by nofun
theorem xF:Td P 125779768604014=true:=by nofun
theorem xG:YM P 7305076=true:=by nofun
theorem kD:YM P 7892834=true:=by nofun
theorem bD:YM P 1919508848=true:=by nofun
theorem kE:YM P 7827314=true:=by nofun
theorem bJ:YN P=true:=by nofun
theorem TA:k7 P Sk=true:=by nofun
theorem Kv:k7 P w5=true:=by nofun
theorem Hn:k7 P dC=true:=by nofun
theorem Ho:k7 P pO=true:=by nofun
theorem Dc:k7 P ju=true:=by nofun
theorem Dd:k7 P jv=true:=by nofun
theorem De:k7 P jw=true:=by nofun
theorem Kw:k7 P w6=true:=by nofun
theorem Hq:k7 P dD=true:=by nofun
theorem Hr:k7 P pQ=true:=by nofun
theorem Df:k7 P jz=true:=by nofun
theorem Dg:k7 P j0=true:=by nofun
theorem Dh:k7 P j1=true:=by nofun
theorem TB:k7 P Sl=true:=by nofun
theorem Kx:k7 P w7=true:=by nofun
theorem Hs:k7 P dE=true:=by nofun
theorem Ht:k7 P pS=true:=by nofun
theorem Di:k7 P j4=true:=by nofun
theorem Dj:k7 P j6=true:=by nofun
theorem Dk:k7 P j7=true:=by nofun
theorem Ky:k7 P w8=true:=by nofun
theorem Hu:k7 P dF=true:=by nofun
theorem Hv:k7 P pU=true:=by nofun
theorem Dl:k7 P kA=true:=by nofun
theorem Dm:k7 P kB=true:=by nofun
theorem Dn:k7 P kC=true:=by nofun
theorem aAz:c1B P=true:=by nofun
theorem tS:tP P dC dC=true:=by nofun
theorem tT:tP P dC dD=true:=by nofun
theorem tU:tP P dC dE=true:=by nofun
theorem tV:tP P dC dF=true:=by nofun
theorem tW:tP P dD dC=true:=by nofun
theorem tX:tP P dD dD=true:=by nofun
theorem tY:tP P dD dE=true:=by nofun
theorem tZ:tP P dD dF=true:=by nofun
theorem ta:tP P dE dC=true:=by nofun
theorem tc:tP P dE dD=true:=by nofun
theorem td:tP P dE dE=true:=by nofun
theorem te:tP P dE dF=true:=by nofun
theorem tf:tP P dF dC=true:=by nofun
theorem tg:tP P dF dD=true:=by nofun
theorem th:tP P dF dE=true:=by nofun
theorem tj:tP P dF dF=true:=by nofun
noncomputable def four:List Nat:=[7892834,1919508848,7827314,125779768604014]
theorem xH:af (λs2=>af (λs3=>nC P 7305076 7892834 s2 s3) four) four=true:=by nofun
theorem tn:af (λs2=>af (λs3=>nC P 7305076 1919508848 s2 s3) four) four=true:=by nofun
theorem xI:af (λs2=>af (λs3=>nC P 7305076 7827314 s2 s3) four) four=true:=by nofun
theorem pj:af (λs2=>af (λs3=>nC P 7305076 125779768604014 s2 s3) four) four=true:=by nofun
theorem xJ:af (λs2=>af (λs3=>nC P 7892834 7892834 s2 s3) four) four=true:=by nofun
theorem tq:af (λs2=>af (λs3=>nC P 7892834 1919508848 s2 s3) four) four=true:=by nofun
theorem xK:af (λs2=>af (λs3=>nC P 7892834 7827314 s2 s3) four) four=true:=by nofun
theorem pk:af (λs2=>af (λs3=>nC P 7892834 125779768604014 s2 s3) four) four=true:=by nofun
theorem tu:af (λs2=>af (λs3=>nC P 1919508848 7892834 s2 s3) four) four=true:=by nofun
theorem qS:af (λs2=>af (λs3=>nC P 1919508848 1919508848 s2 s3) four) four=true:=by nofun
theorem tv:af (λs2=>af (λs3=>nC P 1919508848 7827314 s2 s3) four) four=true:=by nofun
theorem mY:af (λs2=>af (λs3=>nC P 1919508848 125779768604014 s2 s3) four) four=true:=by nofun
theorem xM:af (λs2=>af (λs3=>nC P 7827314 7892834 s2 s3) four) four=true:=by nofun
theorem tw:af (λs2=>af (λs3=>nC P 7827314 1919508848 s2 s3) four) four=true:=by nofun
theorem xN:af (λs2=>af (λs3=>nC P 7827314 7827314 s2 s3) four) four=true:=by nofun
theorem pn:af (λs2=>af (λs3=>nC P 7827314 125779768604014 s2 s3) four) four=true:=by nofun
theorem pv:af (λs2=>af (λs3=>nC P 125779768604014 7892834 s2 s3) four) four=true:=by nofun
theorem mZ:af (λs2=>af (λs3=>nC P 125779768604014 1919508848 s2 s3) four) four=true:=by nofun
theorem pw:af (λs2=>af (λs3=>nC P 125779768604014 7827314 s2 s3) four) four=true:=by nofun
theorem kF:af (λs2=>af (λs3=>nC P 125779768604014 125779768604014 s2 s3) four) four=true:=by nofun
def zv (i:Nat):Stmt:=(A2 P).body.getD i (.Pass default)
def Kz:CE:=⟨A1,[]⟩
noncomputable def cR:Stmt→Expr×Expr×List Stmt×Pos
 | .For t i b _ p=>(t,i,b,p)
 | _=>(.Constant .none 0 default,.Constant .none 0 default,[],default)
theorem Yb:zv P 0=.For (cR (zv P 0)).1 (cR (zv P 0)).2.1 (cR (zv P 0)).2.2.1 [] (cR (zv P 0)).2.2.2:=by nofun
theorem K6:(A2 P).body=[zv P 0,zv P 1]:=by nofun
noncomputable def kG:List (Nat×SV):=[(7239535,.ref 90),(495622906222,.ref 223)]
abbrev BR (c:Cfg):List (Nat×SO):=(390,.tup [.str c.sort,.ref 391,.ref 392])::(391,.list c.path)::(392,.tup c.place)::kI
def rB (c:Cfg):Bool:=bc (λp=>aL (cB p.1) (eA [] [] kG (BR c) p.2) false) (yR nj (lw P) Kz (cR (zv P 0)).1 (cR (zv P 0)).2.2.1 (.ref 390) (bH kG (BR c) 400))
noncomputable def fR (i n:Nat):Nat:=if n=390 then i else if n=391 then i+1 else if n=392 then i+2 else n
theorem dM {i n:Nat} (h:n<390):fR i n=n:=by unfold fR; rw [if_neg (by omega),if_neg (by omega),if_neg (by omega)]
theorem fm {i:Nat}:fR i 390=i:=by unfold fR; rw [if_pos rfl]
theorem eZ {i:Nat}:fR i 391=i+1:=by unfold fR; rw [if_neg (by omega),if_pos rfl]
theorem ed {i:Nat}:fR i 392=i+2:=by unfold fR; rw [if_neg (by omega),if_neg (by omega),if_pos rfl]
noncomputable def At (c1 c2 c3:Cfg) (i:Nat) (c:Cfg):Prop:=(i=230∧c=c1)∨(i=233∧c=c2)∨(i=236∧c=c3)
theorem At.lt {c1 c2 c3 c:Cfg} {i:Nat} (h:At c1 c2 c3 i c):229<i∧i<237:=by
 rcases h with ⟨rfl,_⟩ | ⟨rfl,_⟩ | ⟨rfl,_⟩<;>omega
theorem At.lk {c1 c2 c3 c:Cfg} {i:Nat} (h:At c1 c2 c3 i c):Mine.lk (Fr c1 c2 c3) i=some (.tup [.str c.sort,.ref (i+1),.ref (i+2)])∧Mine.lk (Fr c1 c2 c3) (i+1)=some (.list c.path)∧Mine.lk (Fr c1 c2 c3) (i+2)=some (.tup c.place):=by
 rcases h with ⟨rfl,rfl⟩ | ⟨rfl,rfl⟩ | ⟨rfl,rfl⟩<;>exact ⟨by nofun,by nofun,by nofun⟩
theorem K7 (c1 c2 c3:Cfg):bP (Fr c1 c2 c3)=true:=by nofun
theorem i1 {c1 c2 c3:Cfg} {n:Nat} {so:SO} (h:Mine.lk (Fr c1 c2 c3) n=some so):Mine.lk (cX (Fr c1 c2 c3)) n=some so:=aI (fV c1 c2 c3) (n,so) (ah.mpr (.inl (aZ h)))
theorem px {p:Nat×SO} (h:p∈kI):p∈tb:=tb_mem.mpr (.inr (.inl h))
theorem pz {c:Cfg} {p:Nat×SO} (hp:p∈BR c):(p.1=390∧p.2=.tup [.str c.sort,.ref 391,.ref 392])∨(p.1=391∧p.2=.list c.path)∨(p.1=392∧p.2=.tup c.place)∨p∈kI:=by
 rcases aM hp with rfl | hp
 ·exact .inl ⟨rfl,rfl⟩
 ·rcases aM hp with rfl | hp
  ·exact .inr (.inl ⟨rfl,rfl⟩)
  ·rcases aM hp with rfl | hp
   ·exact .inr (.inr (.inl ⟨rfl,rfl⟩))
   ·exact .inr (.inr (.inr hp))
theorem tx {c:Cfg}:dQ (BR c) 400:=⟨λp hp=>by
 rcases pz hp with ⟨h,_⟩ | ⟨h,_⟩ | ⟨h,_⟩ | h
 ·omega
 ·omega
 ·omega
 ·have:=au (px h); omega,by omega⟩
theorem QT {c:Cfg} (hc:ae c) {p:Nat×SO} (hp:p∈BR c):Of (ltN 400) (ltN 100) p.2:=by
 rcases pz hp with ⟨_,h⟩ | ⟨_,h⟩ | ⟨_,h⟩ | h
 ·rw [h]; rfl
 ·rw [h]; exact hc.path.mono (λn hn=>nomatch hn) (λn hn=>nomatch hn)
 ·rw [h]; exact (fU hc).mono (bB (by omega)) (λn hn=>nomatch hn)
 ·exact (eY (px h)).mono (bB (by omega)) (bB (by omega))
theorem K8:af (λp=>ic gB eg p.2) kG=true:=by nofun
theorem qA {p:Nat×SV} (hp:p∈kG):dB gB eg p.2:=bw (aE K8 p hp)
theorem k8:bP kG=true:=by nofun
theorem K9 {c0:Cx} {mg mb:Str→Option Value} (PG:aY (cG c0.w.params) (KK c0.w.params) mg mb c0.hG) (rm:Rm c0 LF) {env:Env} {ρ:Nm} (eo:aG c0 ρ Kz env) {c1 c2 c3:Cfg} (h1:ae c1) (h2:ae c2) (h3:ae c3) {i:Nat} {c:Cfg} (hi:At c1 c2 c3 i c) (hc:ae c)
 (hr:rB c0.w.params c=true) {l:List (Nat×SV)} (hl:∀ p∈kG,lk l p.1=some p.2) {s0:Shared} (S:c0.SR ρ (bH l (cX (Fr c1 c2 c3)) 400) s0) {v:Value} (hv:VR c0.ν ρ (.ref i) v) {Q:Flow→Shared→Prop} {E:Value→Shared→Prop}
 (hQ:∀ ρ' s1,c0.SR ρ' (bH kG (cX (Fr c1 c2 c3)) 400) s1→dU ρ ρ'→aT s0 s1→Q .next s1) :
 wpAny c0.M c0.A (assign (cR (zv c0.w.params 0)).1 env v) (λ_ s₂=>wpAny c0.M c0.A (execs (cR (zv c0.w.params 0)).2.2.1 env) Q E s₂) E s0:=by
 have hF:=iz h1 h2 h3
 have hLS:dQ (cX (Fr c1 c2 c3)) 400:=cY hF (by omega) (by omega)
 have hnd:=fV c1 c2 c3
 obtain ⟨hi1,hi2⟩:=hi.lt
 obtain ⟨k0,k1,k2⟩:=hi.lk
 have uniq:∀ p∈Fr c1 c2 c3,∀ so,lk (Fr c1 c2 c3) p.1=some so→p.2=so:=λp hp so h=>by
  rw [aI (K7 c1 c2 c3) p hp] at h
  exact aD h
 have img:∀ {p:Nat×SO},p∈BR c→(p.1=390∧fR i p.1=i)∨(p.1=391∧fR i p.1=i+1)∨(p.1=392∧fR i p.1=i+2)∨(p.1<223∧fR i p.1=p.1):=λ{p} hp=>by
  rcases pz hp with ⟨h,_⟩ | ⟨h,_⟩ | ⟨h,_⟩ | h
  ·exact .inl ⟨h,by rw [h,fm]⟩
  ·exact .inr (.inl ⟨h,by rw [h,eZ]⟩)
  ·exact .inr (.inr (.inl ⟨h,by rw [h,ed]⟩))
  ·have:=au (px h)
   exact .inr (.inr (.inr ⟨this,dM (by omega)⟩))
 have inj:∀ p∈BR c,∀ q∈BR c,fR i p.1=fR i q.1→p.1=q.1:=λp hp q hq e=>by
  rcases img hp with ⟨a1,a2⟩ | ⟨a1,a2⟩ | ⟨a1,a2⟩ | ⟨a1,a2⟩<;>rcases img hq with ⟨b1,b2⟩ | ⟨b1,b2⟩ | ⟨b1,b2⟩ | ⟨b1,b2⟩<;>rw [a2,b2] at e<;>omega
 have rid:∀ n,n<390→ee 400 (fR i) n=some n:=λn hn=>by
  unfold ee
  rw [show Nat.blt n 400=true from aC.mpr (by omega),dM hn]; rfl
 have rpull:∀ n,n<400→ee 400 (fR i) n=some (fR i n):=λn hn=>by
  unfold ee
  rw [show Nat.blt n 400=true from aC.mpr hn]; rfl
 have SP:=kn (f:=fR i) (B:=BR c) (lB:=kG) S hLS tx inj (λp hp=>by
  rcases pz hp with ⟨h,e⟩ | ⟨h,e⟩ | ⟨h,e⟩ | h
  ·rw [h,e,fm]
   exact ⟨_,i1 k0,nA (by rw [rpull 391 (by omega),eZ]) (by rw [rpull 392 (by omega),ed])⟩
  ·rw [h,e,eZ]
   exact ⟨_,i1 k1,hc.path.sA λn hn=>nomatch hn⟩
  ·rw [h,e,ed]
   exact ⟨_,i1 k2,hc.place.sA λn hn=>rid n (nB hn)⟩
  ·have h':=px h
   have:=au h'
   rw [dM (by omega)]
   exact ⟨_,aI hnd p (ah.mpr (.inr h')),(eY h').sA λn hn=>rid n (aC.mp hn)⟩)
  (λp hp=>⟨p.2,hl p hp,bh (λn m e=>by
   obtain ⟨hm,h4⟩:=b8 e
   have:=eh h4
   rw [hm]
   exact rid n (by omega)) (λn m e=>by obtain ⟨_,h4⟩:=b9 e; cases h4) (qA hp)⟩)
 let c5:Cx:={ c0 with fz:=λb o=>c0.fz b o∨a5 ρ (bH l (cX (Fr c1 c2 c3)) 400) s0 (NotIn (fR i) (BR c)) b o }
 have eo5:aG c5 (cI ρ (fR i) 400) Kz env:=eo.move rfl λx k e a ha=>nomatch e
 have ok:=cP ⟨c0.prog,c0.w,c0.ν,c0.hG⟩ (cV PG) rfl LF
 have hv5:VR c5.ν (cI ρ (fR i) 400) (.ref 390) v:=by
  obtain ⟨a,ha,e⟩:=hv
  refine ⟨a,?_,e⟩
  unfold cI
  rw [if_pos (by omega),fm,ha]; rfl
 obtain ⟨outs,ho,hall⟩:=fQ hr
 refine uU (c:=c5) ok ⟨rfl,rfl,rfl,rfl⟩ (rm.fz rfl rfl rfl λ_ _ e=>by first | exact e | exact .inl e) PG.G (uj c0.w.params) eo5 hv5 _ _ _ outs ho _ _ (.refl _) SP Q E λfl σ1 ρ1 s1 w hm x1 S1 r1 sm1=>?_
 obtain ⟨hn,hf2⟩:=aH (hall _ hm)
 have hn:=bW hn
 dsimp only at hn hf2
 subst hn
 replace r1:w=Flow.next:=r1
 subst r1
 have S2:=(SR.qR S1 (cN (ν:=c0.ν) (ρ:=ρ1) hf2) tx (λp hp=>(QT hc hp).mono (λ_ h=>h) λ_ _=>rfl) (λp hp=>dB.mono (kz (qA hp)) (bB (by omega)) λ_ _=>rfl)).i0
 let Hb:Nat→Bool:=λn=>aL (Nat.blt n 224) true (aL (Nat.ble 390 n) (Nat.blt n 393) false)
 have Hb_lo:∀ n,n<224→Hb n=true:=λn hn=>by
  show aL (Nat.blt n 224) true _=true
  rw [show Nat.blt n 224=true from aC.mpr hn]; rfl
 obtain ⟨S3,up⟩:=eW (f:=fR i) (F:=ltN 400) (G:=ltN 239) (H:=Hb) (D:=ltN 100) (Lt:=cX (Fr c1 c2 c3)) (lt:=kG) S hLS S2 tx (by nofun) inj (λp hp=>by
  rcases img hp with ⟨_,b2⟩ | ⟨_,b2⟩ | ⟨_,b2⟩ | ⟨b1,b2⟩<;>rw [b2]<;>omega) hLS
  (λn hn=>⟨aC.mp hn,λx hx=>iC (aC.mp hn) rfl (x1 _ _ hx)⟩)
  (λn hn=>by
   cases q:Nat.blt n 224 with
   | true =>
    have hq:=aC.mp q
    by_cases w:∃ p∈BR c,p.1=n
    ·exact .inl w
    ·refine .inr ⟨aC.mpr (by omega),λp hp e=>?_,by rw [dM (by omega)]; omega⟩
     rw [dM (n:=n) (by omega)] at e
     rcases img hp with ⟨_,b2⟩ | ⟨_,b2⟩ | ⟨_,b2⟩ | ⟨b1,b2⟩
     ·omega
     ·omega
     ·omega
     ·exact w ⟨p,hp,by omega⟩
   | false =>
    have hn:aL (Nat.blt n 224) true (aL (Nat.ble 390 n) (Nat.blt n 393) false)=true:=hn
    rw [q] at hn
    obtain ⟨g1,g2⟩:=aH hn
    have g1:=bK g1
    have g2:=aC.mp g2
    have:n=390∨n=391∨n=392:=by omega
    rcases this with rfl | rfl | rfl
    ·exact .inl ⟨_,.head _,rfl⟩
    ·exact .inl ⟨_,.tail _ (.head _),rfl⟩
    ·exact .inl ⟨_,.tail _ (.tail _ (.head _)),rfl⟩)
  (λn hn=>by
   have hn:=aC.mp hn
   refine ⟨by omega,?_⟩
   by_cases w:∃ p∈BR c,fR i p.1=n
   ·obtain ⟨p,hp,e⟩:=w
    exact .inr ⟨p,hp,e,aC.mpr (tx.lt p hp)⟩
   ·exact .inl λp hp e=>w ⟨p,hp,e⟩)
  (λp hp=>by
   by_cases w:∃ q∈BR c,fR i q.1=p.1
   ·left
    obtain ⟨q,hq,e⟩:=w
    refine ⟨q,hq,e,?_⟩
    have hr391:(λn=>aL (Hb n) (some (fR i n)) none) 391=some (i+1):=by show some (fR i 391)=_; rw [eZ]
    have hr392:(λn=>aL (Hb n) (some (fR i n)) none) 392=some (i+2):=by show some (fR i 392)=_; rw [ed]
    have lo:∀ n,n<224→(λn=>aL (Hb n) (some (fR i n)) none) n=some n:=λn hn=>by
     show aL (Hb n) (some (fR i n)) none=some n
     rw [Hb_lo n hn,dM (by omega)]; rfl
    have inF:∀ so,lk (Fr c1 c2 c3) p.1=some so→p.2=so:=λso h=>by
     have h1:=aI hnd p hp
     rw [i1 h] at h1
     exact (aD h1).symm
    rcases pz hq with ⟨b1,b2⟩ | ⟨b1,b2⟩ | ⟨b1,b2⟩ | b1
    ·rw [b1,fm] at e
     rw [b2,inF _ (by rw [← e]; exact k0)]
     exact nA (r:=λn=>aL (Hb n) (some (fR i n)) none) hr391 hr392
    ·rw [b1,eZ] at e
     rw [b2,inF _ (by rw [← e]; exact k1)]
     exact hc.path.sA λn hn=>nomatch hn
    ·rw [b1,ed] at e
     rw [b2,inF _ (by rw [← e]; exact k2)]
     exact hc.place.sA λn hn=>lo n (Nat.lt_succ_of_lt (rz (iV hn)))
    ·have h':=px b1
     have:=au h'
     rw [dM (by omega)] at e
     have e1:=aI hnd q (ah.mpr (.inr h'))
     rw [e,aI hnd p hp] at e1
     rw [aD e1]
     exact (bQ (aE hZ q h')).sA λn hn=>lo n (Nat.lt_succ_of_lt (aC.mp hn))
   ·right
    exact ⟨λq hq e=>w ⟨q,hq,e⟩,λq hq e=>w ⟨q,hq,e⟩,aI hnd p hp,(ky hF hp).mono (λ_ h=>h) (bB (by omega))⟩)
  (λp hp=>⟨p.2,aI k8 p hp,bh (λn m e=>by
   obtain ⟨hm,h4⟩:=b8 e
   have h4:=aC.mp h4
   rw [hm]
   show aL (Hb n) (some (fR i n)) none=some n
   rw [Hb_lo n h4,dM (by omega)]; rfl) (λn m e=>by obtain ⟨_,h4⟩:=b9 e; cases h4) (bw (aE (by nofun:af (λp=>ic (ltN 224) eg p.2) kG=true) p hp))⟩)
  (λp hp=>(QT hc hp).mono (λ_ _=>rfl) λ_ h=>h) (λp hp=>dB.mono (qA hp) (λ_ _=>rfl) λn hn=>nomatch hn) k8 (λ_ _=>rfl)
 exact hQ _ s1 S3 (λn hn a ha=>up n (aC.mpr (eh hn)) a ha) sm1
theorem TC (c1 c2 c3:Cfg) (l:List (Nat×SV)) (h:lk l 495622906222=some (.ref 223)):(lw P).E Kz (cR (zv P 0)).2.1 (bH l (cX (Fr c1 c2 c3)) 400)=some [(.ref 223,bH l (cX (Fr c1 c2 c3)) 400)]:=by
 have e:(lw P).E Kz (cR (zv P 0)).2.1 (bH l (cX (Fr c1 c2 c3)) 400)=(match lk l 495622906222 with | some v=>some [(v,bH l (cX (Fr c1 c2 c3)) 400)] | none=>none):=by nofun
 rw [e,h]
theorem LA:isSet (cR (zv P 0)).2.1=false:=by nofun
noncomputable def Kg:List SV:=[.ref 230,.ref 233,.ref 236]
theorem Hw {c1 c2 c3:Cfg} (hF:iA (Fr c1 c2 c3)) {l:List (Nat×SV)}:(bH l (cX (Fr c1 c2 c3)) 400).hp.get 223=some (.list Kg):=by
 rw [c7 (cY hF (by omega) (by omega))]
 exact i1 (by nofun)
theorem LB {c1 c2 c3:Cfg} (hF:iA (Fr c1 c2 c3)) {l:List (Nat×SV)} (i:Nat):itemAt (bH l (cX (Fr c1 c2 c3)) 400).hp 223 0 0 i=some (sO Kg i):=by
 unfold itemAt
 rw [Hw hF]
 rfl
theorem Hx {c1 c2 c3:Cfg} (hF:iA (Fr c1 c2 c3)) {l:List (Nat×SV)}:dS (bH l (cX (Fr c1 c2 c3)) 400).hp (.ref 223)=some (223,0,0):=by
 show ob ((bH l (cX (Fr c1 c2 c3)) 400).hp.get 223) (ZA 223)=_
 rw [Hw hF]
 rfl
theorem Hy {c1 c2 c3:Cfg} {i:Nat} {x:SV} (h:sO Kg i=some x):∃ k c,x=.ref k∧At c1 c2 c3 k c∧(c=c1∨c=c2∨c=c3)∧i<3:=by
 match i,h with
 | 0,h=>cases h; exact ⟨230,c1,rfl,.inl ⟨rfl,rfl⟩,.inl rfl,by omega⟩
 | 1,h=>cases h; exact ⟨233,c2,rfl,.inr (.inl ⟨rfl,rfl⟩),.inr (.inl rfl),by omega⟩
 | 2,h=>cases h; exact ⟨236,c3,rfl,.inr (.inr ⟨rfl,rfl⟩),.inr (.inr rfl),by omega⟩
 | n+3,h=>cases h
theorem Yc (σ:SS):bG (lw P) Kz [zv P 1] σ=some [(.ret (.bool true),σ)]:=by nofun
inductive J5 (c:Cx) (I:Addr) (ρ:Nm) (s0:Shared) (c1 c2 c3:Cfg) (k:Nat) (s':Shared):Prop
 | mk (i:Nat) (ρ':Nm) (l':List (Nat×SV)) (hk:k=3 - i) (S:c.SR ρ' (bH l' (cX (Fr c1 c2 c3)) 400) s') (hl:∀ p∈kG,lk l' p.1=some p.2) (J:kN c ρ' (bH l' (cX (Fr c1 c2 c3)) 400) s' 223 0 0 I i) (fx:dU ρ ρ') (sm:aT s0 s')
theorem Br:∀ p∈kG,lk (a7 A1 F2 [.ref 90,.ref 223] []) p.1=some p.2:=λp hp=>by
 simp only [kG,List.mem_cons,List.mem_nil_iff,or_false] at hp
 rcases hp with rfl | rfl<;>nofun
theorem xO {c:Cx} {mg mb:Str→Option Value} (PG:aY (cG c.w.params) (KK c.w.params) mg mb c.hG) (rm:Rm c (LF+1)) {ρ:Nm} {c1 c2 c3:Cfg} (h1:ae c1) (h2:ae c2) (h3:ae c3) {s0:Shared} {l:List (Nat×SV)} (hl:bP l=true) (ol:∀ p∈l,dB gB eg p.2)
 (S:c.SR ρ (bH l (cX (Fr c1 c2 c3)) 256) s0) {vs:List Value} (hv:bX c.ν ρ [.ref 90,.ref 223] vs) (R:∀ k,(k=c1∨k=c2∨k=c3)→rB c.w.params k=true) {Q E:Value→Shared→Prop}
 (hQ:∀ ρ' s1,c.SR ρ' (bH l (cX (Fr c1 c2 c3)) 256) s1→dU ρ ρ'→aT s0 s1→Q (.bool true) s1):wpAny c.M c.A (call (.ref 757) vs) Q E s0:=by
 have hF:=iz h1 h2 h3
 refine ze (c:=c) (σ1:=bH (a7 A1 F2 [.ref 90,.ref 223] []) (cX (Fr c1 c2 c3)) 256) (cs:=[]) PG (by have:=rm.depth; omega) (A3 c.w.params) hv (by nofun) (by nofun) S λenv ρ1 s1 oL C E' hL rmI eo x1 S1 sm1=>?_
 have rm0:Rm (c.bo env oL C) LF:=rmI _ rm
 have eo:aG (c.bo env oL C) ρ1 Kz env:=eo
 have S1:=S1.tQ (nx':=400) (by omega)
 rw [K6,Yb]
 refine qT λQ1 E1 kQ=>?_
 have ok:=cP ⟨c.prog,c.w,c.ν,c.hG⟩ (cV PG) rfl LF
 refine bL (wpAny_For (eR (c:=c.bo env oL C) ok ⟨rfl,rfl,rfl,rfl⟩ rm0 eo (TC c.w.params c1 c2 c3 _ (Br _ (.tail _ (.head _)))) S1 λρ2 s2 v2 x2 S2 r2 sm2=>?_) λx=>nO (LA _))
 refine c9 (c:=c.bo env oL C) PG.G S2 r2 (Hx hF) λI s3 S3 J3 sm3=>?_
 refine forR (J5 (c.bo env oL C) I ρ s0 c1 c2 c3) ?_ 3 (.mk 0 ρ2 _ rfl S3 Br J3 (λn _ a ha=>x2 _ _ (x1 _ _ ha)) ((sm1.trans sm2).trans sm3))
 intro k s4 JJ
 obtain ⟨i,ρ4,l4,hk,S4,hl4,J4,fx4,sm4⟩:=JJ
 refine iO (c:=c.bo env oL C) rm0.hh S4 J4 (LB hF i) (λhr s5 S5 sm5=>?_) (λx hr s5 v S5 r5 J5 sm5=>?_)
 ·-- the end
  show wpAny _ _ (execs _ _) _ _ _
  have eo4:aG (c.bo env oL C) ρ4 Kz env:=eo.move rfl λx k e a ha=>nomatch e
  refine dJ (c:=c.bo env oL C) ok ⟨rfl,rfl,rfl,rfl⟩ rm0 _ eo4 _ _ (Yc c.w.params _) ρ4 s5 (.refl _) S5 _ _ λy σ6 ρ6 s6 w hm x6 S6 r6 sm6=>?_
  rcases aj hm with h
  cases h
  obtain ⟨u,rfl,hu⟩:=r6
  replace hu:u=.bool true:=hu
  subst hu
  have fx':dU ρ ρ6:=λn hn a ha=>x6 _ _ (fx4 n hn a ha)
  have S7:=SR.tC (l:=l) S6 S hL (λx sv e=>⟨sv,e,λv hv=>(ol _ (aZ e)).vr fx' (λn hn=>nomatch hn) hv⟩)
  obtain ⟨ρ8,S8,fx8⟩:=SR.shrink hF (fV c1 c2 c3) hl ol (nx:=400) ⟨by omega,by omega⟩ S7
  refine kQ _ _ ?_
  exact hQ ρ8 s6 S8 (fx'.trans fx8) ((sm4.trans sm5).trans sm6)
 ·obtain ⟨kk,ck,rfl,hat,hck,hi3⟩:=Hy (c1:=c1) (c2:=c2) (c3:=c3) hr
  obtain ⟨⟨a,hn,hit,hne⟩,hIL,hIu,hIf,hIle⟩:=J5
  obtain ⟨o,T,ho,qi,hT,hT'⟩:=hit.obj
  refine fG ho qi hT ?_
  have hckok:ae ck:=by rcases hck with rfl | rfl | rfl<;>assumption
  have SF:((c.bo env oL C).dX I o).SR ρ4 (bH l4 (cX (Fr c1 c2 c3)) 400) s5:=SR.freeze S5 ho hIL hIu hIf
  have eoF:aG ((c.bo env oL C).dX I o) ρ4 Kz env:=eo.move rfl λx k e a ha=>nomatch e
  refine K9 (c0:=(c.bo env oL C).dX I o) PG rm0.dX eoF h1 h2 h3 hat hckok (R ck hck) hl4 SF r5 λρ6 s6 S6 fx6 sm6=>?_
  obtain ⟨S7,ho7,hL7,hu7⟩:=SR.FN S6 S5.gd (λvs n e=>by subst e; exact hT' (by cases qi; rfl)) (by rw [qi]; exact (λq=>nomatch q))
  exact ⟨rfl,3 - (i+1),by omega,.mk (i+1) ρ6 kG rfl S7 (λp hp=>aI k8 p hp) ⟨⟨a,fx6 223 rfl a hn,hit.congr (ho7.trans ho.symm),hne⟩,hL7,hu7,hIf,hIle⟩ (fx4.trans fx6) ((sm4.trans sm5).trans sm6)⟩
def lst (i:Nat):Stmt:=(ft P).body.getD i (.Pass default)
def eH:CE:=⟨F3,[(495740282211,224)]⟩
noncomputable def lq:List (Nat×SV):=[(1953523051,.ref 79),(1701863796,.ref 89),(7239535,.ref 90),(495622906222,.ref 223)]
structure OrC where
 f1:Expr
 a1:List Expr
 p1:Pos
 q1:Pos
 f2:Expr
 a2:List Expr
 p2:Pos
 q2:Pos
 p3:Pos
 r:List Stmt
 p4:Pos
noncomputable def orC:List Stmt→OrC
 | [.If (.BoolOp _ [.UnaryOp _ (.Call f1 a1 _ p1) q1,.UnaryOp _ (.Call f2 a2 _ p2) q2] p3) r _ p4]=>⟨f1,a1,p1,q1,f2,a2,p2,q2,p3,r,p4⟩
 | _=>⟨.Constant .none 0 default,[],default,default,.Constant .none 0 default,[],default,default,default,[],default⟩
def o7:OrC:=orC (cR (lst P 7)).2.2.1
theorem Yd:lst P 7=.For (cR (lst P 7)).1 (cR (lst P 7)).2.1 [.If (.BoolOp .Or [.UnaryOp .Not (.Call (o7 P).f1 (o7 P).a1 [] (o7 P).p1) (o7 P).q1,.UnaryOp .Not (.Call (o7 P).f2 (o7 P).a2 [] (o7 P).p2) (o7 P).q2] (o7 P).p3) (o7 P).r [] (o7 P).p4] [] (cR (lst P 7)).2.2.2:=by nofun
abbrev St (l:List (Nat×SV)) (c1 c2 c3:Cfg):SS:=bH l (cX (Fr c1 c2 c3)) 256
theorem Ye (c1 c2 c3:Cfg):(lw P).E eH (o7 P).f1 (St lq c1 c2 c3)=some [(.kref 750,St lq c1 c2 c3)]:=by nofun
theorem Yg (c1 c2 c3:Cfg):qF (lw P) eH (o7 P).a1 (St lq c1 c2 c3)=some [([.ref 79,.ref 89,.ref 95,.ref 90,.ref 223],St lq c1 c2 c3)]:=by nofun
theorem Yh (c1 c2 c3:Cfg):(lw P).E eH (o7 P).f2 (St lq c1 c2 c3)=some [(.kref 757,St lq c1 c2 c3)]:=by nofun
theorem Yi (c1 c2 c3:Cfg):qF (lw P) eH (o7 P).a2 (St lq c1 c2 c3)=some [([.ref 90,.ref 223],St lq c1 c2 c3)]:=by nofun
theorem aA0:bO (o7 P).a1=true∧bO (o7 P).a2=true∧notAttr (o7 P).f1=true∧notAttr (o7 P).f2=true:=⟨by nofun,by nofun,by nofun,by nofun⟩
theorem Yj:af (λp=>ic gB eg p.2) lq=true:=by nofun
theorem fA {p:Nat×SV} (hp:p∈lq):dB gB eg p.2:=bw (aE Yj p hp)
theorem dj:bP lq=true:=by nofun
theorem isTrue_not {M:Model} {A:Around} {x:Expr} {p:Pos} {env:Env} {s:Shared} {Q:Bool→Shared→Prop} {E:Value→Shared→Prop} (hx:isTrue x env (eval x env)=(do let v ← eval x env; standAt x.pos; holding [v] (truthy v)))
 (h:wpAny M A (eval x env) (λv s'=>v=.bool true∧Q false s') E s):wpAny M A (isTrue (.UnaryOp .Not x p) env (eval (.UnaryOp .Not x p) env)) Q E s:=by
 show wpAny M A (isTrue x env (eval x env) >>= λb=>pure (!b)) Q E s
 rw [hx]
 refine aF (aF (bI h (λv s' h'=>?_) λ_ _ e=>e))
 obtain ⟨rfl,hq⟩:=h'
 exact aF (wpAny_standAt (cL (wpAny_truthy_bool (aP hq))))
set_option backward.match.sparseCases true in
theorem Dp {c:Cx} {mg mb:Str→Option Value} (PG:aY (cG c.w.params) (KK c.w.params) mg mb c.hG) (rm:Rm c (LF+2)) {env:Env} {ρ:Nm} (eo:aG c ρ eH env) {c1 c2 c3:Cfg} (h1:ae c1) (h2:ae c2) (h3:ae c3) {s0:Shared}
 (S:c.SR ρ (St lq c1 c2 c3) s0) (D:ph c.w.params c1 c2 c3) (R:∀ k,(k=c1∨k=c2∨k=c3)→rB c.w.params k=true) {Q:Flow→Shared→Prop} {E:Value→Shared→Prop}
 (hQ:∀ ν' ρ' s1,eE ν'→SR c.w.params ν' c.hG c.fz c.L ρ' (St lq c1 c2 c3) s1→dU ρ ρ'→aT s0 s1→Q .next s1) :
 wpAny c.M c.A (execs [.If (.BoolOp .Or [.UnaryOp .Not (.Call (o7 c.w.params).f1 (o7 c.w.params).a1 [] (o7 c.w.params).p1) (o7 c.w.params).q1,.UnaryOp .Not (.Call (o7 c.w.params).f2 (o7 c.w.params).a2 [] (o7 c.w.params).p2) (o7 c.w.params).q2] (o7 c.w.params).p3) (o7 c.w.params).r [] (o7 c.w.params).p4] env) Q E s0:=by
 have rm0:Rm c LF:=rm.le (by omega)
 obtain ⟨n1,n2,n3,n4⟩:=aA0 c.w.params
 refine bL (wpAny_If ?_)
 show wpAny c.M c.A (allTrue .Or [_,_] env) _ _ s0
 show wpAny c.M c.A (isTrue _ env (eval _ env) >>= λt=>match BoolOp.Or,t with
  | .And,false=>pure false
  | .Or,true=>pure true
  | _,_=>allTrue .Or _ env) _ _ s0
 refine aF (isTrue_not rfl (jr PG rm0 eo n1 n3 (F1 c.w.params).kp (Ye c.w.params c1 c2 c3) (Yg c.w.params c1 c2 c3) S λρ1 s1 vs x1 S1 hv sm1=>?_))
 refine Ku PG rm h1 h2 h3 dj (λp hp=>fA hp) S1 hv D λν2 ρ2 s2 nu S2 fx2 sm2=>⟨rfl,?_⟩
 let c':Cx:=c.nu ν2 nu.b nu.s
 have fx:dU ρ ρ2:=λn hn a ha=>fx2 n hn a (x1 _ _ ha)
 have eo':aG c' ρ2 eH env:=eo.move rfl λx k e a ha=>by
  have hk:k=224:=by
   have:=aZ e
   simp only [eH,List.mem_singleton,Prod.mk.injEq] at this
   exact this.2
  subst hk
  exact fx 224 rfl a ha
 show wpAny c.M c.A (allTrue .Or [_] env) _ _ s2
 show wpAny c.M c.A (isTrue _ env (eval _ env) >>= λt=>match BoolOp.Or,t with
  | .And,false=>pure false
  | .Or,true=>pure true
  | _,_=>allTrue .Or _ env) _ _ s2
 refine aF (isTrue_not rfl (jr (c:=c') PG (rm0.fz rfl rfl rfl λ_ _ e=>by first | exact e | exact .inl e) eo' n2 n4 (A3 c.w.params).kp (Yh c.w.params c1 c2 c3) (Yi c.w.params c1 c2 c3) S2 λρ3 s3 vs3 x3 S3 hv3 sm3=>?_))
 refine xO (c:=c') PG (Rm.le (n:=LF+2) (rm.fz (c':=c') rfl rfl rfl λ_ _ e=>e) (by omega)) h1 h2 h3 dj (λp hp=>fA hp) S3 hv3 R λρ4 s4 S4 fx4 sm4=>⟨rfl,?_⟩
 show wpAny c.M c.A (allTrue .Or [] env) _ _ s4
 refine aP ?_
 rw [if_neg (by decide)]
 refine wpAny_execs_nil ?_
 dsimp only
 refine wpAny_execs_nil ?_
 exact hQ ν2 ρ4 s4 nu S4 (fx.trans λn hn a ha=>fx4 n hn a (x3 _ _ ha)) ((sm1.trans sm2).trans (sm3.trans sm4))
theorem SR.less {P:Params} {ν:Nat→Int} {hG:Heap} {fz:Addr→Obj→Prop} {L:Addr} {ρ:Nm} {s:Shared} {l:List (Nat×SV)} {σ:SS} {h:Hp} (S:SR P ν hG fz L ρ σ s) (hl:∀ k so,h.get k=some so→σ.hp.get k=some so):SR P ν hG fz L ρ ⟨σ.loc,h,σ.nx⟩ s :=
 ⟨S.fzk,S.fc,S.gk,S.gd,S.loc,S.Lf,λn so e=>S.hp n so (hl n so e),λn n' so so' a e1 e2=>S.inj n n' so so' a (hl _ _ e1) (hl _ _ e2),S.dom⟩
abbrev S7 (c1 c2 c3:Cfg) (j:Nat):SS:=bH lq ((256,.rng j)::cX (Fr c1 c2 c3)) 257
theorem LC (c1 c2 c3:Cfg):(lw P).E eH (cR (lst P 7)).2.1 (St lq c1 c2 c3)=some [(.ref 256,S7 c1 c2 c3 1),(.ref 256,S7 c1 c2 c3 2),(.ref 256,S7 c1 c2 c3 3),(.ref 256,S7 c1 c2 c3 4)]:=by nofun
theorem Hz:isSet (cR (lst P 7)).2.1=false:=by nofun
def lq7:List (Nat×SV):=Eg lq 1852994932 .anyN
theorem TF (c1 c2 c3:Cfg):dR nj (lw P) eH .anyN (cR (lst P 7)).1 (St lq c1 c2 c3)=some [((),St lq7 c1 c2 c3)]:=by nofun
theorem H0:∀ p∈lq,lk lq7 p.1=some p.2:=λp hp=>by
 simp only [lq,List.mem_cons,List.mem_nil_iff,or_false] at hp
 rcases hp with rfl | rfl | rfl | rfl<;>nofun
theorem iW {P:Params} {ν:Nat→Int} {hG:Heap} {fz:Addr→Obj→Prop} {L:Addr} {ρ:Nm} {σ:SS} {s:Shared} {I:Addr} {o:Obj} (S:SR P ν hG (dX fz I o) L ρ σ s) (hm:o.cls≠.none):s.heap.get? I=some o:=(S.fzk I o (.inr ⟨rfl,rfl⟩)).to (kK hm)
inductive J7 (c:Cx) (I:Addr) (ρ:Nm) (s0:Shared) (c1 c2 c3:Cfg) (j k:Nat) (s':Shared):Prop
 | mk (i:Nat) (ν':Nat→Int) (ρ':Nm) (o':Obj) (hi:i+k=j) (hm:o'.cls≠.none) (nu:eE ν') (S:SR c.w.params ν' c.hG (dX c.fz I o') c.L ρ' (St lq c1 c2 c3) s') (hit:IsRangeIter s'.heap I (i:Int) (k:Int) 1) (fx:dU ρ ρ') (sm:aT s0 s')
theorem qB {h:Heap} {I:Addr} {i k:Int} {o:Obj} (hit:IsRangeIter h I i k 1) (e:h.get? I=some o) (vs:List Value) (n:Nat):o≠ej vs n:=λq=>by
 have hit:h.get? I=some _:=hit
 rw [e,q] at hit
 have:=congrArg (λx:Option Obj=>x.map (·.cls)) hit
 simp at this
theorem xP {F:List (Nat×SO)} (hF:iA F) (j:Nat):dQ ((256,.rng j)::cX F) 257:=(cY hF (by decide) (by decide)).cons (by decide)
theorem Bs {P:Params} {ν:Nat→Int} {hG:Heap} {fz:Addr→Obj→Prop} {L:Addr} {ρ:Nm} {s:Shared} {F:List (Nat×SO)} {j:Nat} (hF:iA F) (hk:bP (cX F)=true) (S:SR P ν hG fz L ρ (bH lq ((256,.rng j)::cX F) 257) s) :
 ∃ ρ',SR P ν hG fz L ρ' (bH lq (cX F) 256) s∧dU ρ ρ':=by
 have S2:SR P ν hG fz L ρ (bH lq (cX F) 257) s:=SR.less (l:=lq) S (λk so e=>by
  rw [c7 (xP hF j)]
  have e':=zr hF (di (l:=lq) (cY hF (nx:=257) (by decide) (by decide)) e)
  rw [aQ,if_neg (λq:(256:Nat)=k=>absurd (Nat.lt_of_le_of_lt (Nat.le_of_eq q) e') (by decide))]
  rw [← c7 (l:=lq) (cY hF (nx:=257) (by decide) (by decide))]
  exact e)
 exact SR.shrink hF hk dj (λp hp=>fA hp) (nx:=257) ⟨by decide,by decide⟩ S2
theorem xQ {a I:Addr} {j:Nat} {h:Heap} (hit:eP 2 j a I 0 h):IsRangeIter h I ((0:Nat):Int) (j:Int) 1:=by
 have h:IsRangeIter h I ((0:Nat):Int) ((j:Int) - ((0:Nat):Int)) 1:=hit
 simpa using h
theorem xR {h h':Heap} {I:Addr} {i k:Nat} {o6:Obj} (h9:h'.get? I=some o6) (ho6:h.get? I=some o6) (hit:IsRangeIter h I ((i:Int)+1) (((k+1:Nat):Int) - 1) 1):IsRangeIter h' I ((i+1:Nat):Int) (k:Int) 1:=by
 rw [show (((i+1:Nat)):Int)=(i:Int)+1 from rfl,show (k:Int)=((k+1:Nat):Int) - 1 by omega]
 exact (h9.trans ho6.symm).trans hit
theorem H2 {c1 c2 c3:Cfg} {j:Nat} (hLk:dQ ((256,.rng j)::cX (Fr c1 c2 c3)) 257) (hj:j<100):dS (S7 c1 c2 c3 j).hp (.ref 256)=some (256,2,j):=by
 show ob ((S7 c1 c2 c3 j).hp.get 256) (ZA 256)=_
 rw [show (S7 c1 c2 c3 j).hp.get 256=some (.rng j) from (c7 hLk).trans rfl]
 show cond (Nat.blt j 1000000) _ none=_
 rw [show Nat.blt j 1000000=true from aC.mpr (Nat.lt_trans hj (by decide))]; rfl
theorem Yk {c1 c2 c3:Cfg} {y:SV} {σ1:SS} (hm:(y,σ1)∈[((.ref 256,S7 c1 c2 c3 1):SV×SS),(.ref 256,S7 c1 c2 c3 2),(.ref 256,S7 c1 c2 c3 3),(.ref 256,S7 c1 c2 c3 4)]):∃ j,y=.ref 256∧σ1=S7 c1 c2 c3 j∧j<100:=by
 simp only [List.mem_cons,Prod.mk.injEq,List.mem_nil_iff,or_false] at hm
 rcases hm with ⟨a,b⟩ | ⟨a,b⟩ | ⟨a,b⟩ | ⟨a,b⟩<;>exact ⟨_,a,b,by decide⟩
theorem H3 {c:Cx} {ρ ρ':Nm} {env:Env} {c':Cx} (eo:aG c ρ eH env) (hL:c'.L=c.L) (fx:dU ρ ρ'):aG c' ρ' eH env:=eo.move hL λx kk e a ha=>by
 have hk:kk=224:=by
  have:=aZ e
  simp only [eH,List.mem_singleton,Prod.mk.injEq] at this
  exact this.2
 subst hk
 exact fx 224 rfl a ha
theorem H4 {c:Cx} {mg mb:Str→Option Value} (PG:aY (cG c.w.params) (KK c.w.params) mg mb c.hG) (rm:Rm c (LF+2)) {env:Env} {ρ:Nm} (eo:aG c ρ eH env) {c1 c2 c3:Cfg} (h1:ae c1) (h2:ae c2) (h3:ae c3) {s0:Shared}
 (S:c.SR ρ (St lq c1 c2 c3) s0) (D:ph c.w.params c1 c2 c3) (R:∀ k,(k=c1∨k=c2∨k=c3)→rB c.w.params k=true) {Q:Flow→Shared→Prop} {E:Value→Shared→Prop}
 (hQ:∀ ν' ρ' s1,eE ν'→SR c.w.params ν' c.hG c.fz c.L ρ' (St lq c1 c2 c3) s1→dU ρ ρ'→aT s0 s1→Q .next s1) :
 wpAny c.M c.A (exec (lst c.w.params 7) env) Q E s0:=by
 have hF:=iz h1 h2 h3
 have rm0:Rm c LF:=rm.le (by omega)
 have ok:=cP ⟨c.prog,c.w,c.ν,c.hG⟩ (cV PG) rfl LF
 rw [Yd]
 refine wpAny_For (ok.E c ρ eH env _ ⟨rfl,rfl,rfl,rfl⟩ rm0 eo _ _ (LC c.w.params c1 c2 c3) ρ s0 (.refl _) S _ _ λy σ1 ρ1 s1 v1 hm x1 S1 r1 sm1=>?_) λx=>nO (Hz _)
 obtain ⟨j,rfl,rfl,hj⟩:=Yk hm
 refine c9 (c:=c) PG.G S1 r1 (H2 (xP hF j) hj) λI s2 S2 J2 sm2=>?_
 obtain ⟨⟨a,hn,hit,hne⟩,hIL,hIu,hIf,hIle⟩:=J2
 obtain ⟨o,T,ho,qi,hT,hT'⟩:=hit.obj
 have SF:=SR.freeze S2 ho hIL hIu hIf
 obtain ⟨ρ2,S3,fx3⟩:=Bs hF (fV c1 c2 c3) SF
 refine forR (J7 c I ρ s0 c1 c2 c3 j) ?_ j (.mk 0 c.ν ρ2 o (by omega) (by rw [qi]; exact (λq=>nomatch q)) ⟨c.νb,c.νs⟩ S3 (xQ hit) (λn hn a ha=>fx3 n hn a (x1 _ _ ha)) (sm1.trans sm2))
 intro k s4 J4
 obtain ⟨i,ν4,ρ4,o4,hik,hm4,nu4,S4,hit4,fx4,sm4⟩:=J4
 obtain ⟨S5,_,hL5,hu5⟩:=SR.FN S4 S1.gd (qB hit4 (iW S4 hm4)) hm4
 cases k with
 | zero =>
  refine wpAny_pyNext_range_end rm.hh hit4 (by omega) λh' he=>?_
  exact hQ ν4 ρ4 _ nu4 (SR.other (t:=s4.toks) S5 hL5 hu5 hIf he) fx4 (sm4.trans (.mk _ _ _))
 | succ k =>
  refine wpAny_pyNext_range_item hit4 (by omega) λh' hit5 hs=>?_
  have S6:=SR.other (t:=s4.toks+1) S5 hL5 hu5 hIf hs.extBut
  obtain ⟨o6,ho6,hcl6⟩:∃ o6,h'.get? I=some o6∧o6.cls=.type "range_iterator" := ⟨_,hit5,rfl⟩
  refine fG ho6 hcl6 (by decide) ?_
  let c':Cx:=(c.nu ν4 nu4.b nu4.s).dX I o6
  have S7':c'.SR ρ4 (St lq c1 c2 c3) _:=SR.freeze S6 ho6 hL5 hu5 hIf
  have eo':aG c' ρ4 eH env:=H3 eo rfl fx4
  have ok':=cP ⟨c.prog,c.w,ν4,c.hG⟩ (cV PG) rfl LF
  have rm':Rm c' (LF+2):=rm.fz (c':=c') rfl rfl rfl λ_ _ e=>.inl e
  refine dc (c:=c') ok' ⟨rfl,rfl,rfl,rfl⟩ (rm'.le (by omega)) PG.G (uj c.w.params) eo' (v:=.anyN) (vv:=.int (i:Int) s4.toks) ⟨(i:Int),s4.toks,by omega,rfl⟩ _ _ _ (TF c.w.params c1 c2 c3) ρ4 _ (.refl _) S7' _ _ λy8 σ8 ρ8 s8 u8 hm8 x8 S8 _ sm8=>?_
  rcases aj hm8 with h
  cases h
  have S9:c'.SR ρ8 (St lq c1 c2 c3) s8:=SR.locs (l:=lq) S8 (λy sv e=>H0 _ (aZ e))
  have eo8:aG c' ρ8 eH env:=eo'.move rfl λx kk e a ha=>x8 _ _ ha
  refine Dp (c:=c') PG rm' eo8 h1 h2 h3 S9 D R λν9 ρ9 s9 nu9 S10 fx10 sm10=>?_
  refine ⟨rfl,k,Nat.lt_succ_self k,.mk (i+1) ν9 ρ9 o6 (by omega) (by rw [hcl6]; exact (λq=>nomatch q)) nu9 S10 (xR (iW S10 (by rw [hcl6]; exact (λq=>nomatch q))) ho6 hit5) (fx4.trans λn hn a ha=>fx10 n hn a (x8 _ _ ha)) (sm4.trans ((aT.mk _ _ _).trans (sm8.trans sm10)))⟩
structure L8C where
 put:Stmt
 e1:Expr
 f2:Expr
 a2:List Expr
 p2:Pos
 q2:Pos
 p3:Pos
 r:List Stmt
 p4:Pos
noncomputable def l8C:List Stmt→L8C
 | [put,.If (.BoolOp _ [e1,.UnaryOp _ (.Call f2 a2 _ p2) q2] p3) r _ p4]=>⟨put,e1,f2,a2,p2,q2,p3,r,p4⟩
 | _=>⟨.Pass default,.Constant .none 0 default,.Constant .none 0 default,[],default,default,default,[],default⟩
def o8:L8C:=l8C (cR (lst P 8)).2.2.1
theorem Yl:lst P 8=.For (cR (lst P 8)).1 (cR (lst P 8)).2.1 [(o8 P).put,.If (.BoolOp .Or [(o8 P).e1,.UnaryOp .Not (.Call (o8 P).f2 (o8 P).a2 [] (o8 P).p2) (o8 P).q2] (o8 P).p3) (o8 P).r [] (o8 P).p4] [] (cR (lst P 8)).2.2.2:=by nofun
abbrev B8 (c:Cfg):List (Nat×SO):=(390,.tup [.str c.sort,.ref 391,.ref 392])::(391,.list c.path)::(392,.tup c.place)::tb
def m8:RM (FL×Bool):=RM.az (dR nj (lw P) eH (.ref 390) (cR (lst P 8)).1) λ_=>RM.az ((lw P).S eH (o8 P).put) λf=>aL (cB f) (RM.az ((lw P).B eH (o8 P).e1) λb=>RM.ret (f,b)) RM.bad
def cw (c:Cfg):Bool:=bc (λp=>aL (cB p.1.1) (aL p.1.2 false (aL (af (λq=>bM q.1 dT) (mX p.2)) (eA (mX p.2) (HY p.2) lq (B8 c) p.2) false)) false) (m8 P (bH lq (B8 c) 400))
theorem jC {c:Cfg} {p:Nat×SO} (hp:p∈B8 c):(p.1=390∧p.2=.tup [.str c.sort,.ref 391,.ref 392])∨(p.1=391∧p.2=.list c.path)∨(p.1=392∧p.2=.tup c.place)∨p∈tb:=by
 rcases aM hp with rfl | hp
 ·exact .inl ⟨rfl,rfl⟩
 ·rcases aM hp with rfl | hp
  ·exact .inr (.inl ⟨rfl,rfl⟩)
  ·rcases aM hp with rfl | hp
   ·exact .inr (.inr (.inl ⟨rfl,rfl⟩))
   ·exact .inr (.inr (.inr hp))
theorem t4 {c:Cfg}:dQ (B8 c) 400:=⟨λp hp=>by
 rcases jC hp with ⟨h,_⟩ | ⟨h,_⟩ | ⟨h,_⟩ | h
 ·omega
 ·omega
 ·omega
 ·have:=au h; omega,by omega⟩
theorem QU {c:Cfg} (hc:ae c) {p:Nat×SO} (hp:p∈B8 c):Of (ltN 400) (ltN 100) p.2:=by
 rcases jC hp with ⟨_,h⟩ | ⟨_,h⟩ | ⟨_,h⟩ | h
 ·rw [h]; rfl
 ·rw [h]; exact hc.path.mono (λn hn=>nomatch hn) (λn hn=>nomatch hn)
 ·rw [h]; exact (fU hc).mono (bB (by omega)) (λn hn=>nomatch hn)
 ·exact (eY h).mono (bB (by omega)) (bB (by omega))
theorem Ym (c1 c2 c3:Cfg):(lw P).E eH (o8 P).f2 (St lq c1 c2 c3)=some [(.kref 757,St lq c1 c2 c3)]:=by nofun
theorem Yn (c1 c2 c3:Cfg):qF (lw P) eH (o8 P).a2 (St lq c1 c2 c3)=some [([.ref 90,.ref 223],St lq c1 c2 c3)]:=by nofun
theorem aA2:bO (o8 P).a2=true∧notAttr (o8 P).f2=true:=⟨by nofun,by nofun⟩
theorem Yo:af (λp=>ic (ltN 224) eg p.2) lq=true:=by nofun
theorem dv {x k:Nat} (h:lk eH.cells x=some k):k=224:=by
 have:=aZ h
 simp only [eH,List.mem_singleton,Prod.mk.injEq] at this
 exact this.2
set_option backward.match.sparseCases true in
theorem Yp {c0:Cx} {mg mb:Str→Option Value} (PG:aY (cG c0.w.params) (KK c0.w.params) mg mb c0.hG) (rm:Rm c0 (LF+2)) {env:Env} {ρ:Nm} (eo:aG c0 ρ eH env) {c1 c2 c3:Cfg} (h1:ae c1) (h2:ae c2) (h3:ae c3) {i:Nat} {c:Cfg} (hi:At c1 c2 c3 i c) (hc:ae c)
 (ht:cw c0.w.params c=true) (R:∀ k,(k=c1∨k=c2∨k=c3)→rB c0.w.params k=true) {s0:Shared} (S0:c0.SR ρ (St lq c1 c2 c3) s0) {v:Value} (hv:VR c0.ν ρ (.ref i) v) {Q:Flow→Shared→Prop} {E:Value→Shared→Prop}
 (hQ:∀ ν' ρ' s1,eE ν'→SR c0.w.params ν' c0.hG c0.fz c0.L ρ' (St lq c1 c2 c3) s1→dU ρ ρ'→aT s0 s1→Q .next s1) :
 wpAny c0.M c0.A (assign (cR (lst c0.w.params 8)).1 env v) (λ_ s₂=>wpAny c0.M c0.A (execs [(o8 c0.w.params).put,.If (.BoolOp .Or [(o8 c0.w.params).e1,.UnaryOp .Not (.Call (o8 c0.w.params).f2 (o8 c0.w.params).a2 [] (o8 c0.w.params).p2) (o8 c0.w.params).q2] (o8 c0.w.params).p3) (o8 c0.w.params).r [] (o8 c0.w.params).p4] env) Q E s₂) E s0:=by
 have hF:=iz h1 h2 h3
 have rm0:Rm c0 LF:=rm.le (by omega)
 have S:=S0.tQ (nx':=400) (by omega)
 have hLS:dQ (cX (Fr c1 c2 c3)) 400:=cY hF (by omega) (by omega)
 have hnd:=fV c1 c2 c3
 obtain ⟨hi1,hi2⟩:=hi.lt
 obtain ⟨k0,k1,k2⟩:=hi.lk
 have img:∀ {p:Nat×SO},p∈B8 c→(p.1=390∧fR i p.1=i)∨(p.1=391∧fR i p.1=i+1)∨(p.1=392∧fR i p.1=i+2)∨(p.1<223∧fR i p.1=p.1):=λ{p} hp=>by
  rcases jC hp with ⟨h,_⟩ | ⟨h,_⟩ | ⟨h,_⟩ | h
  ·exact .inl ⟨h,by rw [h,fm]⟩
  ·exact .inr (.inl ⟨h,by rw [h,eZ]⟩)
  ·exact .inr (.inr (.inl ⟨h,by rw [h,ed]⟩))
  ·have:=au h
   exact .inr (.inr (.inr ⟨this,dM (by omega)⟩))
 have inj:∀ p∈B8 c,∀ q∈B8 c,fR i p.1=fR i q.1→p.1=q.1:=λp hp q hq e=>by
  rcases img hp with ⟨a1,a2⟩ | ⟨a1,a2⟩ | ⟨a1,a2⟩ | ⟨a1,a2⟩<;>rcases img hq with ⟨b1,b2⟩ | ⟨b1,b2⟩ | ⟨b1,b2⟩ | ⟨b1,b2⟩<;>rw [a2,b2] at e<;>omega
 have rid:∀ n,n<390→ee 400 (fR i) n=some n:=λn hn=>by
  unfold ee
  rw [show Nat.blt n 400=true from aC.mpr (by omega),dM hn]; rfl
 have rpull:∀ n,n<400→ee 400 (fR i) n=some (fR i n):=λn hn=>by
  unfold ee
  rw [show Nat.blt n 400=true from aC.mpr hn]; rfl
 have SP:=kn (f:=fR i) (B:=B8 c) (lB:=lq) S hLS t4 inj (λp hp=>by
  rcases jC hp with ⟨h,e⟩ | ⟨h,e⟩ | ⟨h,e⟩ | h
  ·rw [h,e,fm]
   exact ⟨_,i1 k0,nA (by rw [rpull 391 (by omega),eZ]) (by rw [rpull 392 (by omega),ed])⟩
  ·rw [h,e,eZ]
   exact ⟨_,i1 k1,hc.path.sA λn hn=>nomatch hn⟩
  ·rw [h,e,ed]
   exact ⟨_,i1 k2,hc.place.sA λn hn=>rid n (nB hn)⟩
  ·have:=au h
   rw [dM (by omega)]
   exact ⟨_,aI hnd p (ah.mpr (.inr h)),(eY h).sA λn hn=>rid n (aC.mp hn)⟩)
  (λp hp=>⟨p.2,aI dj p hp,bh (λn m e=>by
   obtain ⟨hm,h4⟩:=b8 e
   have:=eh h4
   rw [hm]
   exact rid n (by omega)) (λn m e=>by obtain ⟨_,h4⟩:=b9 e; cases h4) (fA hp)⟩)
 let c5:Cx:={ c0 with fz:=λb o=>c0.fz b o∨a5 ρ (bH lq (cX (Fr c1 c2 c3)) 400) s0 (NotIn (fR i) (B8 c)) b o }
 have eo5:aG c5 (cI ρ (fR i) 400) eH env:=eo.move rfl λx k e a ha=>by
  rw [dv e] at ha ⊢
  unfold cI
  rw [if_pos (by omega),dM (by omega),ha]; rfl
 have ok:=cP ⟨c0.prog,c0.w,c0.ν,c0.hG⟩ (cV PG) rfl LF
 have hv5:VR c5.ν (cI ρ (fR i) 400) (.ref 390) v:=by
  obtain ⟨a,ha,e⟩:=hv
  refine ⟨a,?_,e⟩
  unfold cI
  rw [if_pos (by omega),fm,ha]; rfl
 obtain ⟨outs,ho,hall⟩:=fQ ht
 unfold m8 at ho
 obtain ⟨l1,hl1,g1⟩:=RM.aO ho
 have rm5:Rm c5 LF:=rm0.fz (c':=c5) rfl rfl rfl λ_ _ e=>.inl e
 refine dc (c:=c5) ok ⟨rfl,rfl,rfl,rfl⟩ rm5 PG.G (uj c0.w.params) eo5 hv5 _ _ _ hl1 _ _ (.refl _) SP _ _ λy1 σ1 ρ1 s1 u1 hm1 x1 S1 _ sm1=>?_
 obtain ⟨o2,ho2,hs2⟩:=g1 _ hm1
 obtain ⟨l2,hl2,g2⟩:=RM.aO ho2
 refine bL (ok.S c5 ρ1 eH env _ ⟨rfl,rfl,rfl,rfl⟩ rm5 (eo5.mono x1) _ _ hl2 ρ1 s1 (.refl _) S1 _ _ λf σ2 ρ2 s2 w hm2 x2 S2 r2 sm2=>?_)
 obtain ⟨o3,ho3,hs3⟩:=g2 _ hm2
 have hfn:f=.next:=by
  cases q:cB f with
  | true=>exact bW q
  | false=>dsimp only at ho3; rw [q] at ho3; cases ho3
 subst hfn
 replace r2:w=Flow.next:=r2
 subst r2
 have ho3:RM.az ((lw c0.w.params).B eH (o8 c0.w.params).e1) (λb=>RM.ret (FL.next,b)) σ2=some o3:=ho3
 obtain ⟨l3,hl3,g3⟩:=RM.aO ho3
 dsimp only
 refine bL (wpAny_If ?_)
 show wpAny c0.M c0.A (allTrue .Or [_,_] env) _ _ s2
 show wpAny c0.M c0.A (isTrue _ env (eval _ env) >>= λt=>match BoolOp.Or,t with
  | .And,false=>pure false
  | .Or,true=>pure true
  | _,_=>allTrue .Or _ env) _ _ s2
 refine aF (ok.B c5 ρ2 eH env _ ⟨rfl,rfl,rfl,rfl⟩ rm5 ((eo5.mono x1).mono x2) _ _ hl3 ρ2 s2 (.refl _) S2 _ _ λb σ3 ρ3 s3 bv hm3 x3 S3 r3 sm3=>?_)
 subst r3
 obtain ⟨o4,ho4,hs4⟩:=g3 _ hm3
 cases ho4
 have Q7:=hall _ (hs2 _ (hs3 _ (hs4 _ (.head _))))
 obtain ⟨_,hf1⟩:=aH Q7
 dsimp only at hf1
 have hb:bv=false:=by
  cases bv with
  | false=>rfl
  | true=>cases hf1
 subst hb
 have hf1:aL (af (λq=>bM q.1 dT) (mX σ3)) (eA (mX σ3) (HY σ3) lq (B8 c) σ3) false=true:=hf1
 obtain ⟨hmv,hmet⟩:=aH hf1
 have M:=cN (ν:=c0.ν) (ρ:=ρ3) hmet
 have S4:=SR.qR S3 M t4 (λp hp=>(QU hc hp).mono (λ_ h=>h) λ_ _=>rfl) (λp hp=>dB.mono (kz (fA hp)) (bB (by omega)) λ_ _=>rfl)
 have nu4:eE (kg c0.ν (HY σ3)):=eE.mt ⟨c0.νb,c0.νs⟩ M.b
 have unmv:∀ n,bM n dT=false→lk (mX σ3) n=none:=λn hn=>by
  cases q:lk (mX σ3) n with
  | none=>rfl
  | some k =>
   have:=aE hmv _ (aZ q)
   dsimp only at this
   rw [hn] at this; cases this
 let Fb:Nat→Bool:=λn=>aL (Nat.blt n 400) (aL (bM n dT) false true) false
 have Fb_ok:∀ n,Fb n=true→n<400∧bM n dT=false:=λn hn=>by
  obtain ⟨h1,h2⟩:=aH hn
  refine ⟨aC.mp h1,?_⟩
  cases w:bM n dT with
  | false=>rfl
  | true=>rw [w] at h2; cases h2
 have Fb_of:∀ n,n<400→bM n dT=false→Fb n=true:=λn h1 h3=>by
  show aL (Nat.blt n 400) (aL (bM n dT) false true) false=true
  rw [show Nat.blt n 400=true from aC.mpr h1,h3]; rfl
 have mov39:∀ n,n=390∨n=391∨n=392→bM n dT=false:=λn h=>by
  rcases h with rfl | rfl | rfl<;>exact ku (by nofun)
 let Hb:Nat→Bool:=λn=>aL (Nat.blt n 224) true (aL (Nat.ble 390 n) (Nat.blt n 393) false)
 have Hb_lo:∀ n,n<224→Hb n=true:=λn hn=>by
  show aL (Nat.blt n 224) true _=true
  rw [show Nat.blt n 224=true from aC.mpr hn]; rfl
 have m390:((390,.tup [.str c.sort,.ref 391,.ref 392]):Nat×SO)∈B8 c:=.head _
 have m391:((391,.list c.path):Nat×SO)∈B8 c:=.tail _ (.head _)
 have m392:((392,.tup c.place):Nat×SO)∈B8 c:=.tail _ (.tail _ (.head _))
 have mtb:∀ {p:Nat×SO},p∈tb→p∈B8 c:=λhp=>.tail _ (.tail _ (.tail _ hp))
 obtain ⟨S5,up⟩:=eW (f:=fR i) (F:=Fb) (G:=gB) (H:=Hb) (D:=eg) (Lt:=cX (Fr c1 c2 c3)) (lt:=lq) S hLS S4 t4 (by nofun) inj (λp hp=>by
  rcases img hp with ⟨_,b2⟩ | ⟨_,b2⟩ | ⟨_,b2⟩ | ⟨b1,b2⟩<;>rw [b2]<;>omega) hLS
  (λn hn=>by
   obtain ⟨h1,h2⟩:=Fb_ok n hn
   exact ⟨h1,λx hx=>iC h1 (unmv n h2) (x3 _ _ (x2 _ _ (x1 _ _ hx)))⟩)
  (λn hn=>by
   cases q:Nat.blt n 224 with
   | true =>
    have hq:=aC.mp q
    cases w:bS tb n with
    | true=>obtain ⟨p,hp,e⟩:=iU w; exact .inl ⟨p,mtb hp,e⟩
    | false =>
     refine .inr ⟨Fb_of n (by omega) (ku w),λp hp e=>?_,by rw [dM (by omega)]; omega⟩
     rw [dM (n:=n) (by omega)] at e
     rcases jC hp with ⟨b1,_⟩ | ⟨b1,_⟩ | ⟨b1,_⟩ | b1
     ·rw [b1,fm] at e; omega
     ·rw [b1,eZ] at e; omega
     ·rw [b1,ed] at e; omega
     ·rw [dM (by have:=au b1; omega)] at e
      exact kr w p b1 e
   | false =>
    have hn:aL (Nat.blt n 224) true (aL (Nat.ble 390 n) (Nat.blt n 393) false)=true:=hn
    rw [q] at hn
    obtain ⟨g1,g2⟩:=aH hn
    have g1:=bK g1
    have g2:=aC.mp g2
    have:n=390∨n=391∨n=392:=by omega
    rcases this with rfl | rfl | rfl
    ·exact .inl ⟨_,m390,rfl⟩
    ·exact .inl ⟨_,m391,rfl⟩
    ·exact .inl ⟨_,m392,rfl⟩)
  (λn hn=>by
   have hlt:=eh hn
   refine ⟨by omega,?_⟩
   by_cases w:∃ p∈B8 c,fR i p.1=n
   ·obtain ⟨p,hp,e⟩:=w
    refine .inr ⟨p,hp,e,Fb_of _ (t4.lt p hp) ?_⟩
    rcases jC hp with ⟨b1,_⟩ | ⟨b1,_⟩ | ⟨b1,_⟩ | b1
    ·exact mov39 _ (.inl b1)
    ·exact mov39 _ (.inr (.inl b1))
    ·exact mov39 _ (.inr (.inr b1))
    ·have:=au b1
     rw [dM (by omega)] at e
     rw [e]
     unfold gB at hn
     cases q:bM n Ke with
     | true=>have:=bj q; omega
     | false=>rw [q] at hn; exact (Bn hn).2
   ·exact .inl λp hp e=>w ⟨p,hp,e⟩)
  (λp hp=>by
   by_cases w:∃ q∈B8 c,fR i q.1=p.1
   ·left
    obtain ⟨q,hq,e⟩:=w
    refine ⟨q,hq,e,?_⟩
    have hr391:(λn=>aL (Hb n) (some (fR i n)) none) 391=some (i+1):=by show some (fR i 391)=_; rw [eZ]
    have hr392:(λn=>aL (Hb n) (some (fR i n)) none) 392=some (i+2):=by show some (fR i 392)=_; rw [ed]
    have lo:∀ n,n<224→(λn=>aL (Hb n) (some (fR i n)) none) n=some n:=λn hn=>by
     show aL (Hb n) (some (fR i n)) none=some n
     rw [Hb_lo n hn,dM (by omega)]; rfl
    have inF:∀ so,lk (Fr c1 c2 c3) p.1=some so→p.2=so:=λso h=>by
     have h1:=aI hnd p hp
     rw [i1 h] at h1
     exact (aD h1).symm
    rcases jC hq with ⟨b1,b2⟩ | ⟨b1,b2⟩ | ⟨b1,b2⟩ | b1
    ·rw [b1,fm] at e
     rw [b2,inF _ (by rw [← e]; exact k0)]
     exact nA (r:=λn=>aL (Hb n) (some (fR i n)) none) hr391 hr392
    ·rw [b1,eZ] at e
     rw [b2,inF _ (by rw [← e]; exact k1)]
     exact hc.path.sA λn hn=>nomatch hn
    ·rw [b1,ed] at e
     rw [b2,inF _ (by rw [← e]; exact k2)]
     exact hc.place.sA λn hn=>lo n (Nat.lt_succ_of_lt (rz (iV hn)))
    ·have:=au b1
     rw [dM (by omega)] at e
     have e1:=aI hnd q (ah.mpr (.inr b1))
     rw [e,aI hnd p hp] at e1
     rw [aD e1]
     exact (bQ (aE hZ q b1)).sA λn hn=>lo n (Nat.lt_succ_of_lt (aC.mp hn))
   ·right
    refine ⟨λq hq e=>w ⟨q,hq,e⟩,λq hq e=>w ⟨q,hq,e⟩,aI hnd p hp,?_⟩
    rcases ah.mp hp with h | h
    ·exact hF.of p h
    ·exact absurd ⟨p,mtb h,dM (by have:=au h; omega)⟩ w)
  (λp hp=>⟨p.2,aI dj p hp,bh (λn m e=>by
   obtain ⟨hm,h4⟩:=b8 e
   have h4:=aC.mp h4
   rw [hm]
   show aL (Hb n) (some (fR i n)) none=some n
   rw [Hb_lo n h4,dM (by omega)]; rfl) (λn m e=>by obtain ⟨_,h4⟩:=b9 e; cases h4) (bw (aE Yo p hp))⟩)
  (λp hp=>(QU hc hp).mono (λ_ _=>rfl) λ_ h=>h) (λp hp=>dB.mono (fA hp) (λ_ _=>rfl) λn hn=>nomatch hn) dj (λn hn=>nomatch hn)
 obtain ⟨ρ6,S6,fx6⟩:=SR.shrink hF hnd dj (λp hp=>fA hp) (nx:=400) ⟨by omega,by omega⟩ S5
 have fx:dU ρ ρ6:=λn hn a ha=>fx6 n hn a (up n hn a ha)
 let c':Cx:=c0.nu (kg c0.ν (HY σ3)) nu4.b nu4.s
 have eo':aG c' ρ6 eH env:=eo.move rfl λx k e a ha=>by
  rw [dv e] at ha ⊢
  exact fx 224 rfl a ha
 obtain ⟨n2,n4⟩:=aA2 c0.w.params
 show wpAny c0.M c0.A (allTrue .Or [_] env) _ _ s3
 show wpAny c0.M c0.A (isTrue _ env (eval _ env) >>= λt=>match BoolOp.Or,t with
  | .And,false=>pure false
  | .Or,true=>pure true
  | _,_=>allTrue .Or _ env) _ _ s3
 refine aF (isTrue_not rfl (jr (c:=c') PG (rm0.fz rfl rfl rfl λ_ _ e=>by first | exact e | exact .inl e) eo' n2 n4 (A3 c0.w.params).kp (Ym c0.w.params c1 c2 c3) (Yn c0.w.params c1 c2 c3) S6 λρ7 s7 vs7 x7 S7 hv7 sm7=>?_))
 refine xO (c:=c') PG (Rm.le (n:=LF+2) (rm.fz (c':=c') rfl rfl rfl λ_ _ e=>e) (by omega)) h1 h2 h3 dj (λp hp=>fA hp) S7 hv7 R λρ8 s8 S8 fx8 sm8=>⟨rfl,?_⟩
 show wpAny c0.M c0.A (allTrue .Or [] env) _ _ s8
 refine aP ?_
 rw [if_neg (by decide)]
 refine wpAny_execs_nil ?_
 dsimp only
 refine wpAny_execs_nil ?_
 exact hQ _ ρ8 s8 nu4 S8 (fx.trans λn hn a ha=>fx8 n hn a (x7 _ _ ha)) ((sm1.trans (sm2.trans sm3)).trans (sm7.trans sm8))
theorem gst {c1 c2 c3:Cfg} (hF:iA (Fr c1 c2 c3)) {l:List (Nat×SV)}:(St l c1 c2 c3).hp.get 223=some (.list Kg):=by
 rw [c7 (cY hF (by omega) (by omega))]
 exact i1 (by nofun)
theorem LD (c1 c2 c3:Cfg):(lw P).E eH (cR (lst P 8)).2.1 (St lq c1 c2 c3)=some [(.ref 223,St lq c1 c2 c3)]:=by nofun
theorem H5:isSet (cR (lst P 8)).2.1=false:=by nofun
inductive J8 (c:Cx) (I:Addr) (ρ:Nm) (s0:Shared) (c1 c2 c3:Cfg) (k:Nat) (s':Shared):Prop
 | mk (i:Nat) (ν':Nat→Int) (ρ':Nm) (o':Obj) (b:Addr) (hi:i+k=4) (hm:o'.cls≠.none) (nu:eE ν') (S:SR c.w.params ν' c.hG (dX c.fz I o') c.L ρ' (St lq c1 c2 c3) s') (hb:ρ' 223=some b) (hit:eP 0 0 b I i s'.heap) (hne:b≠I) (fx:dU ρ ρ') (sm:aT s0 s')
theorem H6 {c:Cx} {mg mb:Str→Option Value} (PG:aY (cG c.w.params) (KK c.w.params) mg mb c.hG) (rm:Rm c (LF+2)) {env:Env} {ρ:Nm} (eo:aG c ρ eH env) {c1 c2 c3:Cfg} (h1:ae c1) (h2:ae c2) (h3:ae c3) {s0:Shared}
 (S:c.SR ρ (St lq c1 c2 c3) s0) (T8:∀ k,(k=c1∨k=c2∨k=c3)→cw c.w.params k=true) (R:∀ k,(k=c1∨k=c2∨k=c3)→rB c.w.params k=true) {Q:Flow→Shared→Prop} {E:Value→Shared→Prop}
 (hQ:∀ ν' ρ' s1,eE ν'→SR c.w.params ν' c.hG c.fz c.L ρ' (St lq c1 c2 c3) s1→dU ρ ρ'→aT s0 s1→Q .next s1) :
 wpAny c.M c.A (exec (lst c.w.params 8) env) Q E s0:=by
 have hF:=iz h1 h2 h3
 have rm0:Rm c LF:=rm.le (by omega)
 have ok:=cP ⟨c.prog,c.w,c.ν,c.hG⟩ (cV PG) rfl LF
 rw [Yl]
 refine wpAny_For (eR (c:=c) ok ⟨rfl,rfl,rfl,rfl⟩ rm0 eo (LD c.w.params c1 c2 c3) S λρ1 s1 v1 x1 S1 r1 sm1=>?_) λx=>nO (H5 _)
 have Q3:dS (St lq c1 c2 c3).hp (.ref 223)=some (223,0,0):=by
  show ob ((St lq c1 c2 c3).hp.get 223) (ZA 223)=_
  rw [gst hF]
  rfl
 refine c9 (c:=c) PG.G S1 r1 Q3 λI s2 S2 J2 sm2=>?_
 obtain ⟨⟨a,hn,hit,hne⟩,hIL,hIu,hIf,hIle⟩:=J2
 obtain ⟨o,T,ho,qi,hT,hT'⟩:=hit.obj
 have SF:=SR.freeze S2 ho hIL hIu hIf
 refine forR (J8 c I ρ s0 c1 c2 c3) ?_ 4 (.mk 0 c.ν ρ1 o a (by decide) (by rw [qi]; exact (λq=>nomatch q)) ⟨c.νb,c.νs⟩ SF hn hit hne (λn hn a ha=>x1 _ _ ha) (sm1.trans sm2))
 intro k s4 J4
 obtain ⟨i,ν4,ρ4,o4,b,hik,hm4,nu4,S4,hb,hit4,hbI,fx4,sm4⟩:=J4
 have o4e:=iW S4 hm4
 obtain ⟨o4',T4,ho4,hcl4,_,hT4⟩:=hit4.obj
 rw [o4e] at ho4
 cases ho4
 obtain ⟨S5,_,hL5,hu5⟩:=SR.FN S4 S1.gd (λvs n e=>by subst e; exact hT4 (by cases hcl4; rfl)) hm4
 let c':Cx:=c.nu ν4 nu4.b nu4.s
 have J5:kN c' ρ4 (St lq c1 c2 c3) s4 223 0 0 I i:=⟨⟨b,hb,hit4,hbI⟩,hL5,hu5,hIf,λe=>nomatch e⟩
 have hitem:itemAt (St lq c1 c2 c3).hp 223 0 0 i=some (sO Kg i):=by
  unfold itemAt
  rw [gst hF]
  rfl
 refine iO (c:=c') rm.hh S5 J5 hitem (λhr s6 S6 sm6=>?_) (λx hr s6 v S6 r6 J6 sm6=>?_)
 ·exact hQ ν4 ρ4 s6 nu4 S6 fx4 (sm4.trans sm6)
 ·obtain ⟨kk,ck,rfl,hat,hck,hi3⟩:=Hy (c1:=c1) (c2:=c2) (c3:=c3) hr
  obtain ⟨⟨b',hb',hit6,hne6⟩,hIL6,hIu6,hIf6,_⟩:=J6
  obtain ⟨o6,T6,ho6,hcl6,hT6,hT6'⟩:=hit6.obj
  refine fG ho6 hcl6 hT6 ?_
  have hckok:ae ck:=by rcases hck with rfl | rfl | rfl<;>assumption
  let cF:Cx:=c'.dX I o6
  have SF6:cF.SR ρ4 (St lq c1 c2 c3) s6:=SR.freeze S6 ho6 hIL6 hIu6 hIf6
  have eoF:aG cF ρ4 eH env:=eo.move rfl λx k e a ha=>by
   rw [dv e] at ha ⊢
   exact fx4 224 rfl a ha
  refine Yp (c0:=cF) PG (rm.fz (c':=cF) rfl rfl rfl λ_ _ e=>.inl e) eoF h1 h2 h3 hat hckok (T8 ck hck) R SF6 r6 λν7 ρ7 s7 nu7 S7 fx7 sm7=>?_
  have h7:=iW S7 (by rw [hcl6]; exact (λq=>nomatch q))
  exact ⟨rfl,k - 1,by omega,.mk (i+1) ν7 ρ7 o6 b' (by omega) (by rw [hcl6]; exact (λq=>nomatch q)) nu7 S7 (fx7 223 rfl b' hb') (hit6.congr (h7.trans ho6.symm)) hne6 (fx4.trans fx7) ((sm4.trans sm6).trans sm7)⟩
theorem Yq (c1 c2 c3:Cfg):bc (λp=>tL p.1) (bG (lw P) eH [lst P 9] (St lq c1 c2 c3))=true:=by nofun
theorem LG {c:Cx} {mg mb:Str→Option Value} (PG:aY (cG c.w.params) (KK c.w.params) mg mb c.hG) (rm:Rm c (LF+2)) {env:Env} {ρ:Nm} (eo:aG c ρ eH env) {c1 c2 c3:Cfg} (h1:ae c1) (h2:ae c2) (h3:ae c3) {s0:Shared}
 (S:c.SR ρ (St lq c1 c2 c3) s0) (D:ph c.w.params c1 c2 c3) (T8:∀ k,(k=c1∨k=c2∨k=c3)→cw c.w.params k=true) (R:∀ k,(k=c1∨k=c2∨k=c3)→rB c.w.params k=true) {Q:Flow→Shared→Prop} {E:Value→Shared→Prop}
 (hQ:∀ s1,(∀ b o,c.hG.get? b=some o→s1.heap.get? b=some o)→aT s0 s1→Q (.ret (.bool true)) s1) :
 wpAny c.M c.A (execs [lst c.w.params 7,lst c.w.params 8,lst c.w.params 9] env) Q E s0:=by
 have rm0:Rm c LF:=rm.le (by omega)
 refine bL (H4 PG rm eo h1 h2 h3 S D R λν1 ρ1 s1 nu1 S1 fx1 sm1=>?_)
 dsimp only
 let c':Cx:=c.nu ν1 nu1.b nu1.s
 have eo1:aG c' ρ1 eH env:=eo.move rfl λx k e a ha=>by
  rw [dv e] at ha ⊢
  exact fx1 224 rfl a ha
 refine bL (H6 (c:=c') PG (rm.fz rfl rfl rfl λ_ _ e=>by first | exact e | exact .inl e) eo1 h1 h2 h3 S1 T8 R λν2 ρ2 s2 nu2 S2 fx2 sm2=>?_)
 dsimp only
 let c2':Cx:=c.nu ν2 nu2.b nu2.s
 have eo2:aG c2' ρ2 eH env:=eo.move rfl λx k e a ha=>by
  rw [dv e] at ha ⊢
  exact fx2 224 rfl a (fx1 224 rfl a ha)
 refine dg (c:=c2') PG (rm0.fz rfl rfl rfl λ_ _ e=>by first | exact e | exact .inl e) eo2 (Yq c.w.params c1 c2 c3) S2 λfl σ3 ρ3 s3 v hf x3 S3 r3 sm3=>?_
 have hf:=jA hf
 dsimp only at hf
 subst hf
 obtain ⟨u,rfl,hu⟩:=r3
 replace hu:u=.bool true:=hu
 subst hu
 exact hQ s3 (λb o h=>S3.br b o h) (sm1.trans (sm2.trans sm3))
theorem Yr:lst P 6=.For (cR (lst P 6)).1 (cR (lst P 6)).2.1 (cR (lst P 6)).2.2.1 [] (cR (lst P 6)).2.2.2:=by nofun
noncomputable def sF:SO:=.cell (some (.ref 95))
abbrev B6 (L:List SV):List (Nat×SO):=(223,.list L)::(224,sF)::RM.app d4 kI
abbrev TG (L:List SV) (k:Nat) (c:Cfg):List (Nat×SO):=(k,.tup [.str c.sort,.ref (Nat.add k 1),.ref (Nat.add k 2)])::(Nat.add k 1,.list c.path)::(Nat.add k 2,.tup c.place)::B6 (RM.app L [.ref k])
def Ys (l:List SV):Nat:=List.rec (motive:=λ_=>Nat) 1023 (λx r ih=>List.rec (motive:=λ_=>Nat) (match x with | .ref n=>n | _=>1023) (λ_ _ _=>ih) r) l
def TH (σ:SS):Nat:=match σ.hp.get 223 with
 | some (.list l)=>Ys l
 | _=>1023
def Hh (σ:SS) (n:Nat):Nat:=match σ.hp.get n with
 | some (.tup [_,_,.ref m])=>m
 | _=>1023
def Te (L:List SV) (k:Nat):Bool:=bc (λp=>aL (cB p.1) (Option.rec (motive:=λ_=>Bool) false (λc=>aL (Nat.beq c.sort 7305076) false
 (eA [(k,TH p.2),(Nat.add k 1,refOf p.2.loc 1752457584),(Nat.add k 2,Hh p.2 (TH p.2))] [] lq (TG L k c) p.2))
 (lk ax (fu p.2 (.ref (refOf p.2.loc 1752457584))))) false) (bG (lw P) eH (cR (lst P 6)).2.2.1 (bH lq (B6 L) 256))
abbrev F6 (L:List SV) (G:List (Nat×SO)):List (Nat×SO):=(223,.list L)::(224,sF)::G
noncomputable abbrev dw (k:Nat) (c:Cfg):List (Nat×SO):=[(k,.tup [.str c.sort,.ref (Nat.add k 1),.ref (Nat.add k 2)]),(Nat.add k 1,.list c.path),(Nat.add k 2,.tup c.place)]
structure G6 (L:List SV) (G:List (Nat×SO)) (k:Nat):Prop where
 kk:230≤k∧k≤236
 key:∀ p∈G,230≤p.1∧p.1<k
 of:∀ p∈G,Of (ltN k) eg p.2
 ofL:Of (ltN k) eg (.list L)
 ofL':Of (ltN 256) dP (.list (RM.app L [.ref k]))
 nd:bP (cX (F6 L G))=true
theorem Yt {c0:Cx} {mg mb:Str→Option Value} (PG:aY (cG c0.w.params) (KK c0.w.params) mg mb c0.hG) (rm:Rm c0 LF) {env:Env} {ρ:Nm} (eo:aG c0 ρ eH env) {L:List SV} {G:List (Nat×SO)} {k:Nat} (g:G6 L G k) {s0:Shared}
 (S:c0.SR ρ (bH lq (cX (F6 L G)) 256) s0) (ht:Te c0.w.params L k=true) {Q:Flow→Shared→Prop} {E:Value→Shared→Prop}
 (hQ:∀ q ρ' s1,q∈ax→q.2.sort≠7305076→c0.SR ρ' (bH lq (cX (F6 (RM.app L [.ref k]) (RM.app (dw k q.2) G))) 256) s1→(∀ n,n<k→∀ a,ρ n=some a→ρ' n=some a)→aT s0 s1→Q .next s1) :
 wpAny c0.M c0.A (execs (cR (lst c0.w.params 6)).2.2.1 env) Q E s0:=by
 obtain ⟨hk1,hk2⟩:=g.kk
 have memF:∀ {p:Nat×SO} {L':List SV} {G':List (Nat×SO)},p∈cX (F6 L' G')→p=(223,.list L')∨p=(224,sF)∨p∈G'∨p∈tb:=λ{p L' G'} hp=>by
  rcases ah.mp hp with hp | hp
  ·rcases aM hp with rfl | hp
   ·exact .inl rfl
   ·rcases aM hp with rfl | hp
    ·exact .inr (.inl rfl)
    ·exact .inr (.inr (.inl hp))
  ·exact .inr (.inr (.inr hp))
 have hLS:dQ (cX (F6 L G)) 256:=⟨λp hp=>by
  rcases memF hp with rfl | rfl | h | h
  ·show 223<256; omega
  ·show 224<256; omega
  ·have:=g.key p h; omega
  ·have:=au h; omega,by omega⟩
 have memB:∀ {p:Nat×SO} {L':List SV},p∈B6 L'→p=(223,.list L')∨p=(224,sF)∨p∈RM.app d4 kI:=λ{p L'} hp=>by
  rcases aM hp with rfl | hp
  ·exact .inl rfl
  ·rcases aM hp with rfl | hp
   ·exact .inr (.inl rfl)
   ·exact .inr (.inr hp)
 have BL:∀ p∈B6 L,p∈cX (F6 L G):=λp hp=>by
  rcases memB hp with rfl | rfl | h
  ·exact ah.mpr (.inl (.head _))
  ·exact ah.mpr (.inl (.tail _ (.head _)))
  ·exact ah.mpr (.inr (iy (.inr rfl) h))
 have tb23:∀ p∈tb,Of (ltN 223) dP p.2:=λp hp=>bQ (aE hZ p hp)
 have lqV:∀ p∈lq,dB (ltN 256) dP p.2:=λp hp=>dB.mono (kz (fA hp)) (bB (by omega)) λ_ _=>rfl
 have SP:=dh S hLS (B:=B6 L) (lB:=lq) (λp hp=>⟨aI g.nd p (BL p hp),by
  rcases memB hp with rfl | rfl | h
  ·exact g.ofL.mono (bB (by omega)) λ_ _=>rfl
  ·exact bQ (by nofun)
  ·exact (tb23 p (iy (.inr rfl) h)).mono (bB (by omega)) λ_ h=>h⟩) (λp hp=>⟨aI dj p hp,lqV p hp⟩)
 let c5:Cx:={ c0 with fz:=λb o=>c0.fz b o∨a5 ρ (bH lq (cX (F6 L G)) 256) s0 (NotIn id (B6 L)) b o }
 have eo5:aG c5 (cI ρ id 256) eH env:=eo.move rfl λx kk e a ha=>by
  rw [dv e] at ha ⊢
  exact eK (by omega) ha
 refine dg (c:=c5) PG (rm.fz rfl rfl rfl λ_ _ e=>by first | exact e | exact .inl e) eo5 ht SP λfl σ1 ρ1 s1 v hf x1 S1 r1 sm1=>?_
 obtain ⟨hn,hf2⟩:=aH hf
 have hn:=bW hn
 dsimp only at hn hf2
 clear hf
 subst hn
 replace r1:v=Flow.next:=r1
 subst r1
 cases hck:lk ax (fu σ1 (.ref (refOf σ1.loc 1752457584))) with
 | none=>rw [hck] at hf2; cases hf2
 | some c =>
 rw [hck] at hf2
 have hf2:aL (Nat.beq c.sort 7305076) false (eA _ _ _ _ _)=true:=hf2
 cases hs:Nat.beq c.sort 7305076 with
 | true=>rw [hs] at hf2; cases hf2
 | false =>
 rw [hs] at hf2
 have hf3:eA _ _ _ (TG L k c) σ1=true:=hf2
 have hcm:=aZ hck
 have hc:ae c:=iT (aE eJ _ hcm)
 generalize TH σ1=m0 at hf3
 generalize refOf σ1.loc 1752457584=m1 at hf3
 generalize Hh σ1 m0=m2 at hf3
 have M:=cN (ν:=c0.ν) (ρ:=ρ1) hf3
 have k1:Nat.add k 1=k+1:=rfl
 have k2:Nat.add k 2=k+2:=rfl
 have hlk:∀ n,n<k→lk [(k,m0),(Nat.add k 1,m1),(Nat.add k 2,m2)] n=none:=λn hn=>by
  rw [aQ,if_neg (by show k≠n; omega),aQ,if_neg (by show Nat.add k 1≠n; omega),aQ,if_neg (by show Nat.add k 2≠n; omega)]; rfl
 have unm:∀ n,n<k→tK 256 [(k,m0),(Nat.add k 1,m1),(Nat.add k 2,m2)] n=true:=λn hn=>by
  unfold tK bS
  rw [show Nat.blt n 256=true from aC.mpr (by omega),hlk n hn]; rfl
 have unmL:∀ n,ltN k n=true→tK 256 [(k,m0),(Nat.add k 1,m1),(Nat.add k 2,m2)] n=true:=λn hn=>unm n (aC.mp hn)
 have memB':∀ {p:Nat×SO},p∈TG L k c→p∈dw k c∨p∈B6 (RM.app L [.ref k]):=λ{p} hp=>by
  rcases aM hp with rfl | hp
  ·exact .inl (.head _)
  ·rcases aM hp with rfl | hp
   ·exact .inl (.tail _ (.head _))
   ·rcases aM hp with rfl | hp
    ·exact .inl (.tail _ (.tail _ (.head _)))
    ·exact .inr hp
 have new3B:∀ p∈dw k c,p∈TG L k c:=λp hp=>by
  rcases aM hp with rfl | hp
  ·exact .head _
  ·rcases aM hp with rfl | hp
   ·exact .tail _ (.head _)
   ·rw [aj hp]; exact .tail _ (.tail _ (.head _))
 have inB':∀ p∈B6 (RM.app L [.ref k]),p∈TG L k c:=λp hp=>.tail _ (.tail _ (.tail _ hp))
 have new3k:∀ p∈dw k c,k≤p.1∧p.1≤k+2:=λp hp=>by
  rcases aM hp with rfl | hp
  ·exact ⟨Nat.le_refl _,by show k≤k+2; omega⟩
  ·rcases aM hp with rfl | hp
   ·exact ⟨by show k≤k+1; omega,by show k+1≤k+2; omega⟩
   ·rw [aj hp]; exact ⟨by show k≤k+2; omega,Nat.le_refl _⟩
 have refOk:∀ n,n<256→dB (ltN 256) dP (.ref n):=λn hn=>by
  show (uC (ltN 256) n).map SV.ref=_
  unfold uC
  rw [show ltN 256 n=true from aC.mpr hn]; rfl
 have newOf:∀ p∈dw k c,Of (ltN 256) dP p.2:=λp hp=>by
  rcases aM hp with rfl | hp
  ·show (nq _ _ _).map SO.tup=_
   rw [cz (x:=.str c.sort) (y:=.str c.sort) rfl (cz (refOk (Nat.add k 1) (by show k+1<256; omega)) (cz (refOk (Nat.add k 2) (by show k+2<256; omega)) rfl))]
   rfl
  ·rcases aM hp with rfl | hp
   ·exact hc.path.mono (λn hn=>nomatch hn) (λn hn=>nomatch hn)
   ·rw [aj hp]
    exact hc.place.mono (λn hn=>aC.mpr (by have:=rz (iV hn); omega)) (λn hn=>nomatch hn)
 have B'of:∀ p∈TG L k c,Of (ltN 256) dP p.2:=λp hp=>by
  rcases memB' hp with h | h
  ·exact newOf p h
  ·rcases memB h with rfl | rfl | h
   ·exact g.ofL'
   ·exact bQ (by nofun)
   ·exact (tb23 p (iy (.inr rfl) h)).mono (bB (by omega)) λ_ h=>h
 have hB':dQ (TG L k c) 256:=⟨λp hp=>by
  rcases memB' hp with h | h
  ·have:=new3k p h; omega
  ·rcases memB h with rfl | rfl | h
   ·show 223<256; omega
   ·show 224<256; omega
   ·have:=au (iy (.inr rfl) h); omega,by omega⟩
 have memN':∀ {p:Nat×SO},p∈cX (F6 (RM.app L [.ref k]) (RM.app (dw k c) G))→p=(223,.list (RM.app L [.ref k]))∨p=(224,sF)∨p∈dw k c∨p∈G∨p∈tb:=λ{p} hp=>by
  rcases memF hp with h | h | h | h
  ·exact .inl h
  ·exact .inr (.inl h)
  ·rw [RM.c8,List.mem_append] at h
   rcases h with h | h
   ·exact .inr (.inr (.inl h))
   ·exact .inr (.inr (.inr (.inl h)))
  ·exact .inr (.inr (.inr (.inr h)))
 have hLt:dQ (cX (F6 (RM.app L [.ref k]) (RM.app (dw k c) G))) 256:=⟨λp hp=>by
  rcases memN' hp with rfl | rfl | h | h | h
  ·show 223<256; omega
  ·show 224<256; omega
  ·have:=new3k p h; omega
  ·have:=g.key p h; omega
  ·have:=au h; omega,by omega⟩
 have noB:∀ p:Nat×SO,(230≤p.1∨(p∈tb∧p∉RM.app d4 kI))→ix (B6 L) p.1∧ix (B6 (RM.app L [.ref k])) p.1:=λp hp=>by
  have one:∀ (L':List SV),ix (B6 L') p.1:=λL' q hq e=>by
   rcases memB hq with rfl | rfl | h
   ·have e:223=p.1:=e
    rcases hp with h | ⟨h,_⟩
    ·omega
    ·have:=au h; omega
   ·have e:224=p.1:=e
    rcases hp with h | ⟨h,_⟩
    ·omega
    ·have:=au h; omega
   ·have hq':=iy (.inr rfl) h
    rcases hp with h' | ⟨h',h''⟩
    ·have:=au hq'; omega
    ·have e1:=pV hq'
     rw [e,pV h'] at e1
     have:q=p:=by cases q; cases p; simp only at e e1; rw [e,aD e1]
     exact h'' (this▸h)
  exact ⟨one _,one _⟩
 obtain ⟨S2,up2⟩:=eV (Lt:=cX (F6 (RM.app L [.ref k]) (RM.app (dw k c) G))) (lt:=lq) S hLS S1 x1 M hB' (λq hq=>by
  rcases aM hq with rfl | hq
  ·exact ⟨_,new3B _ (.head _),rfl⟩
  ·rcases aM hq with rfl | hq
   ·exact ⟨_,new3B _ (.tail _ (.head _)),rfl⟩
   ·rw [aj hq]
    exact ⟨_,new3B _ (.tail _ (.tail _ (.head _))),rfl⟩) hLt (λp hp=>by
  rcases memN' hp with rfl | rfl | h | h | h
  ·exact .inl ⟨inB' _ (.head _),g.ofL'⟩
  ·exact .inl ⟨inB' _ (.tail _ (.head _)),bQ (by nofun)⟩
  ·exact .inl ⟨new3B p h,newOf p h⟩
  ·have hg:=g.key p h
   refine .inr ⟨(noB p (.inl hg.1)).1,λq hq e=>?_,aI g.nd p (ah.mpr (.inl (.tail _ (.tail _ h)))),(g.of p h).mono unmL λn hn=>nomatch hn⟩
   rcases memB' hq with h' | h'
   ·have:=new3k q h'; omega
   ·exact (noB p (.inl hg.1)).2 q h' e
  ·by_cases w:p∈RM.app d4 kI
   ·exact .inl ⟨inB' p (.tail _ (.tail _ w)),(tb23 p h).mono (bB (by omega)) λ_ h=>h⟩
   ·have hl:=au h
    refine .inr ⟨(noB p (.inr ⟨h,w⟩)).1,λq hq e=>?_,aI g.nd p (ah.mpr (.inr h)),(tb23 p h).mono (λn hn=>unm n (by have:=aC.mp hn; omega)) λn hn=>rfl⟩
    rcases memB' hq with h' | h'
    ·have:=new3k q h'; omega
    ·exact (noB p (.inr ⟨h,w⟩)).2 q h' e)
  (λp hp=>⟨aI dj p hp,lqV p hp⟩)
 exact hQ _ _ s1 hcm (λe=>by
  have e:c.sort=7305076:=e
  rw [e] at hs; exact absurd hs (by decide)) S2.i0 (λn hn a ha=>up2 n (unm n hn) a ha) sm1
noncomputable def L6:Nat→List SV
 | 0=>[]
 | 1=>[.ref 230]
 | 2=>[.ref 230,.ref 233]
 | _=>[.ref 230,.ref 233,.ref 236]
noncomputable def N6:Nat→Nat
 | 0=>230
 | 1=>233
 | _=>236
def Gs (c1 c2 c3:Cfg):Nat→List (Nat×SO)
 | 0=>[]
 | 1=>RM.app (dw 230 c1) []
 | 2=>RM.app (dw 233 c2) (RM.app (dw 230 c1) [])
 | _=>RM.app (dw 236 c3) (RM.app (dw 233 c2) (RM.app (dw 230 c1) []))
theorem fW {k:Nat} {c:Cfg} {p:Nat×SO} (hc:ae c) (hk:230≤k∧k≤236) (hp:p∈dw k c):k≤p.1∧p.1≤k+2∧Of (ltN (k+3)) eg p.2:=by
 have refOk:∀ n,n<k+3→dB (ltN (k+3)) eg (.ref n):=λn hn=>by
  show (uC (ltN (k+3)) n).map SV.ref=_
  unfold uC
  rw [show ltN (k+3) n=true from aC.mpr hn]; rfl
 rcases aM hp with rfl | hp
 ·refine ⟨Nat.le_refl _,by show k≤k+2; omega,?_⟩
  show (nq _ _ _).map SO.tup=_
  rw [cz (x:=.str c.sort) (y:=.str c.sort) rfl (cz (refOk (Nat.add k 1) (by show k+1<k+3; omega)) (cz (refOk (Nat.add k 2) (by show k+2<k+3; omega)) rfl))]
  rfl
 ·rcases aM hp with rfl | hp
  ·exact ⟨by show k≤k+1; omega,by show k+1≤k+2; omega,hc.path.mono (λn hn=>nomatch hn) λ_ h=>h⟩
  ·rw [aj hp]
   exact ⟨by show k≤k+2; omega,Nat.le_refl _,hc.place.mono (λn hn=>aC.mpr (by have:=rz (iV hn); omega)) λ_ h=>h⟩
theorem QV {c1 c2 c3:Cfg} (h1:ae c1) (h2:ae c2) {i:Nat} (hi:i<3):G6 (L6 i) (Gs c1 c2 c3 i) (N6 i):=by
 match i,hi with
 | 0,_=>exact ⟨⟨by decide,by decide⟩,(λp hp=>nomatch hp),(λp hp=>nomatch hp),bQ (by nofun),bQ (by nofun),by nofun⟩
 | 1,_ =>
  have m:∀ p∈Gs c1 c2 c3 1,p∈dw 230 c1:=λp hp=>by
   have hp:p∈RM.app (dw 230 c1) []:=hp
   rw [RM.c8,List.append_nil] at hp; exact hp
  refine ⟨⟨by decide,by decide⟩,λp hp=>?_,λp hp=>?_,bQ (by nofun),bQ (by nofun),by nofun⟩
  ·obtain ⟨a,b,_⟩:=fW h1 ⟨by omega,by omega⟩ (m p hp)
   exact ⟨a,by show p.1<233; omega⟩
  ·exact (fW h1 ⟨by omega,by omega⟩ (m p hp)).2.2
 | 2,_ =>
  have m:∀ p∈Gs c1 c2 c3 2,p∈dw 233 c2∨p∈dw 230 c1:=λp hp=>by
   have hp:p∈RM.app (dw 233 c2) (RM.app (dw 230 c1) []):=hp
   rw [RM.c8,List.mem_append,RM.c8,List.append_nil] at hp; exact hp
  refine ⟨⟨by decide,by decide⟩,λp hp=>?_,λp hp=>?_,bQ (by nofun),bQ (by nofun),by nofun⟩
  ·rcases m p hp with h | h
   ·obtain ⟨a,b,_⟩:=fW h2 ⟨by omega,by omega⟩ h
    exact ⟨by omega,by show p.1<236; omega⟩
   ·obtain ⟨a,b,_⟩:=fW h1 ⟨by omega,by omega⟩ h
    exact ⟨a,by show p.1<236; omega⟩
  ·rcases m p hp with h | h
   ·exact (fW h2 ⟨by omega,by omega⟩ h).2.2
   ·exact (fW h1 ⟨by omega,by omega⟩ h).2.2.mono (bB (by decide)) λ_ h=>h
abbrev S6 (c1 c2 c3:Cfg) (i:Nat):SS:=bH lq (cX (F6 (L6 i) (Gs c1 c2 c3 i))) 256
theorem LH:(lw P).E eH (cR (lst P 6)).2.1 (bH lq (cX (F6 [] [])) 256)=some [(.ref 256,bH lq ((256,.rng 3)::cX (F6 [] [])) 257)]:=by nofun
theorem H7:isSet (cR (lst P 6)).2.1=false:=by nofun
theorem TJ (h:Hp):dR nj (lw P) eH .anyN (cR (lst P 6)).1 ⟨lq,h,256⟩=some [((),⟨lq7,h,256⟩)]:=by nofun
theorem H8:iA (F6 [] []) where
 nm:=λp hp=>by
  rcases aM hp with rfl | hp
  ·nofun
  ·rw [aj hp]; nofun
 of:=λp hp=>by
  rcases aM hp with rfl | hp
  ·exact bQ (by nofun)
  ·rw [aj hp]; exact bQ (by nofun)
 nd:=by nofun
noncomputable def Good (c:Cfg):Prop:=∃ q∈ax,q.2=c∧c.sort≠7305076
theorem Good.ok {c:Cfg} (h:Good c):ae c:=by
 obtain ⟨q,hq,rfl,_⟩:=h
 exact iT (aE eJ _ hq)
theorem Dq {c1 c2 c3:Cfg} {P:Params} {ν:Nat→Int} {hG:Heap} {fz:Addr→Obj→Prop} {L:Addr} {ρ:Nm} {s:Shared} (h1:ae c1) (h2:ae c2) (h3:ae c3) (S:SR P ν hG fz L ρ (S6 c1 c2 c3 3) s):SR P ν hG fz L ρ (St lq c1 c2 c3) s:=by
 have nd:bP (cX (F6 (L6 3) (Gs c1 c2 c3 3)))=true:=by nofun
 have hF:=iz h1 h2 h3
 have hL:dQ (cX (F6 (L6 3) (Gs c1 c2 c3 3))) 256:=⟨λp hp=>by
  rcases ah.mp hp with hp | hp
  ·have:af (λp:Nat×SO=>Nat.blt p.1 256) (F6 (L6 3) (Gs c1 c2 c3 3))=true:=by nofun
   exact aC.mp (aE this p hp)
  ·have:=au hp; omega,by omega⟩
 refine SR.less (l:=lq) (σ:=S6 c1 c2 c3 3) S λk so e=>?_
 have hm:=di (l:=lq) (cY hF (nx:=256) (by omega) (by omega)) e
 rw [c7 hL]
 have inA:∀ p∈Fr c1 c2 c3,p∈F6 (L6 3) (Gs c1 c2 c3 3):=λp hp=>by
  simp only [Fr,List.mem_cons,List.mem_nil_iff,or_false] at hp
  show p∈(223,SO.list (L6 3))::(224,sF)::RM.app (dw 236 c3) (RM.app (dw 233 c2) (RM.app (dw 230 c1) []))
  rw [RM.c8,RM.c8,RM.c8]
  rcases hp with rfl | rfl | rfl | rfl | rfl | rfl | rfl | rfl | rfl | rfl | rfl
  ·exact .head _
  ·exact .tail _ (.head _)
  ·exact .tail _ (.tail _ (.tail _ (.tail _ (.tail _ (.tail _ (.tail _ (.tail _ (.head _))))))))
  ·exact .tail _ (.tail _ (.tail _ (.tail _ (.tail _ (.tail _ (.tail _ (.tail _ (.tail _ (.head _)))))))))
  ·exact .tail _ (.tail _ (.tail _ (.tail _ (.tail _ (.tail _ (.tail _ (.tail _ (.tail _ (.tail _ (.head _))))))))))
  ·exact .tail _ (.tail _ (.tail _ (.tail _ (.tail _ (.head _)))))
  ·exact .tail _ (.tail _ (.tail _ (.tail _ (.tail _ (.tail _ (.head _))))))
  ·exact .tail _ (.tail _ (.tail _ (.tail _ (.tail _ (.tail _ (.tail _ (.head _)))))))
  ·exact .tail _ (.tail _ (.head _))
  ·exact .tail _ (.tail _ (.tail _ (.head _)))
  ·exact .tail _ (.tail _ (.tail _ (.tail _ (.head _))))
 refine aI nd (k,so) ?_
 rcases ah.mp hm with h | h
 ·exact ah.mpr (.inl (inA _ h))
 ·exact ah.mpr (.inr h)
theorem stp (c1 c2 c3 c:Cfg) {i:Nat} (hi:i<3):∃ d1 d2 d3,F6 (RM.app (L6 i) [.ref (N6 i)]) (RM.app (dw (N6 i) c) (Gs c1 c2 c3 i))=F6 (L6 (i+1)) (Gs d1 d2 d3 (i+1)) ∧
 (d1=c1∨d1=c2∨d1=c3∨d1=c)∧(d2=c1∨d2=c2∨d2=c3∨d2=c)∧(d3=c1∨d3=c2∨d3=c3∨d3=c):=by
 have:i=0∨i=1∨i=2:=by omega
 rcases this with rfl | rfl | rfl
 ·exact ⟨c,c2,c3,by nofun,.inr (.inr (.inr rfl)),.inr (.inl rfl),.inr (.inr (.inl rfl))⟩
 ·exact ⟨c1,c,c3,by nofun,.inl rfl,.inr (.inr (.inr rfl)),.inr (.inr (.inl rfl))⟩
 ·exact ⟨c1,c2,c,by nofun,.inl rfl,.inr (.inl rfl),.inr (.inr (.inr rfl))⟩
inductive J6 (c:Cx) (I:Addr) (ρ:Nm) (s0:Shared) (k:Nat) (s':Shared):Prop
 | mk (i:Nat) (c1 c2 c3:Cfg) (ρ':Nm) (o':Obj) (hi:i+k=3) (hm:o'.cls≠.none) (g1:Good c1) (g2:Good c2) (g3:Good c3) (S:SR c.w.params c.ν c.hG (dX c.fz I o') c.L ρ' (S6 c1 c2 c3 i) s') (hit:IsRangeIter s'.heap I (i:Int) (k:Int) 1) (fx:∀ a,ρ 224=some a→ρ' 224=some a) (sm:aT s0 s')
theorem good0:Good eX:=by
 have e:lk ax 7012705=some eX:=by nofun
 refine ⟨_,aZ e,rfl,λh=>?_⟩
 have w:Nat.beq eX.sort 7305076=false:=by nofun
 rw [h] at w; exact absurd w (by decide)
theorem H9 {c:Cx} {mg mb:Str→Option Value} (PG:aY (cG c.w.params) (KK c.w.params) mg mb c.hG) (rm:Rm c LF) {env:Env} {ρ:Nm} (eo:aG c ρ eH env) {s0:Shared} (S:c.SR ρ (bH lq (cX (F6 [] [])) 256) s0) (ht:∀ i,i<3→Te c.w.params (L6 i) (N6 i)=true)
 {Q:Flow→Shared→Prop} {E:Value→Shared→Prop}
 (hQ:∀ c1 c2 c3 ρ' s1,Good c1→Good c2→Good c3→c.SR ρ' (St lq c1 c2 c3) s1→(∀ a,ρ 224=some a→ρ' 224=some a)→aT s0 s1→Q .next s1) :
 wpAny c.M c.A (exec (lst c.w.params 6) env) Q E s0:=by
 have ok:=cP ⟨c.prog,c.w,c.ν,c.hG⟩ (cV PG) rfl LF
 rw [Yr]
 refine wpAny_For (ok.E c ρ eH env _ ⟨rfl,rfl,rfl,rfl⟩ rm eo _ _ (LH c.w.params) ρ s0 (.refl _) S _ _ λy σ1 ρ1 s1 v1 hm x1 S1 r1 sm1=>?_) λx=>nO (H7 _)
 rcases aj hm with h
 cases h
 have Q3:dS (bH lq (((256,.rng 3):Nat×SO)::cX (F6 [] [])) 257).hp (.ref 256)=some (256,2,3):=by nofun
 refine c9 (c:=c) PG.G S1 r1 Q3 λI s2 S2 J2 sm2=>?_
 obtain ⟨⟨a,hn,hit,hne⟩,hIL,hIu,hIf,hIle⟩:=J2
 obtain ⟨o,T,ho,qi,hT,hT'⟩:=hit.obj
 have SF:=SR.freeze S2 ho hIL hIu hIf
 obtain ⟨ρ2,S3,fx3⟩:=Bs H8 (by nofun) SF
 refine forR (J6 c I ρ s0) ?_ 3 (.mk 0 eX eX eX ρ2 o (by decide) (by rw [qi]; exact (λq=>nomatch q)) good0 good0 good0 S3 (xQ hit) (λa ha=>fx3 224 rfl a (x1 _ _ ha)) (sm1.trans sm2))
 intro k s4 JJ
 obtain ⟨i,c1,c2,c3,ρ4,o4,hik,hm4,g1,g2,g3,S4,hit4,fx4,sm4⟩:=JJ
 obtain ⟨S5,_,hL5,hu5⟩:=SR.FN S4 S1.gd (qB hit4 (iW S4 hm4)) hm4
 cases k with
 | zero =>
  have hi:i=3:=by omega
  subst hi
  refine wpAny_pyNext_range_end rm.hh hit4 (by omega) λh' he=>?_
  exact hQ c1 c2 c3 ρ4 _ g1 g2 g3 (Dq g1.ok g2.ok g3.ok (SR.other (t:=s4.toks) S5 hL5 hu5 hIf he)) fx4 (sm4.trans (.mk _ _ _))
 | succ k =>
  have hi:i<3:=by omega
  refine wpAny_pyNext_range_item hit4 (by omega) λh' hit5 hs=>?_
  have S6':=SR.other (t:=s4.toks+1) S5 hL5 hu5 hIf hs.extBut
  obtain ⟨o6,ho6,hcl6⟩:∃ o6,h'.get? I=some o6∧o6.cls=.type "range_iterator" := ⟨_,hit5,rfl⟩
  refine fG ho6 hcl6 (by decide) ?_
  let c':Cx:=c.dX I o6
  have S7':c'.SR ρ4 (S6 c1 c2 c3 i) _:=SR.freeze S6' ho6 hL5 hu5 hIf
  have eo':aG c' ρ4 eH env:=eo.move rfl λx kk e a ha=>by
   rw [dv e] at ha ⊢
   exact fx4 a ha
  have rm':Rm c' LF:=rm.fz (c':=c') rfl rfl rfl λ_ _ e=>.inl e
  refine dc (c:=c') ok ⟨rfl,rfl,rfl,rfl⟩ rm' PG.G (uj c.w.params) eo' (v:=.anyN) (vv:=.int (i:Int) s4.toks) ⟨(i:Int),s4.toks,by omega,rfl⟩ _ _ _ (TJ c.w.params _) ρ4 _ (.refl _) S7' _ _ λy8 σ8 ρ8 s8 u8 hm8 x8 S8 _ sm8=>?_
  rcases aj hm8 with h
  cases h
  have S9:c'.SR ρ8 (S6 c1 c2 c3 i) s8:=SR.locs (l:=lq) S8 (λy sv e=>H0 _ (aZ e))
  have eo8:aG c' ρ8 eH env:=eo'.move rfl λx kk e a ha=>x8 _ _ ha
  refine Yt (c0:=c') PG rm' eo8 (QV g1.ok g2.ok hi (c3:=c3)) S9 (ht i hi) λq ρ9 s9 hq hqs S10 fx10 sm10=>?_
  have gq:Good q.2:=⟨q,hq,rfl,hqs⟩
  have hit9:=xR (iW S10 (by rw [hcl6]; exact (λq=>nomatch q))) ho6 hit5
  have fx9:∀ a,ρ 224=some a→ρ9 224=some a:=λa ha=>fx10 224 (by have:=(QV g1.ok g2.ok hi (c3:=c3)).kk; omega) a (x8 _ _ (fx4 a ha))
  have sm9:=sm4.trans ((aT.mk _ _ _).trans (sm8.trans sm10))
  obtain ⟨d1,d2,d3,e,hd⟩:=stp c1 c2 c3 q.2 hi
  have gd:∀ d,(d=c1∨d=c2∨d=c3∨d=q.2)→Good d:=λd h=>by rcases h with rfl | rfl | rfl | rfl<;>assumption
  rw [e] at S10
  exact ⟨rfl,k,Nat.lt_succ_self k,.mk (i+1) d1 d2 d3 ρ9 o6 (by omega) (by rw [hcl6]; exact (λq=>nomatch q)) (gd _ hd.1) (gd _ hd.2.1) (gd _ hd.2.2) S10 hit9 fx9 sm9⟩
theorem TK:rB P w5=true:=by nofun
theorem LI:cw P w5=true:=by nofun
theorem LJ:rB P dC=true:=by nofun
theorem IA:cw P dC=true:=by nofun
theorem LK:rB P eX=true:=by nofun
theorem IB:cw P eX=true:=by nofun
theorem LL:rB P pO=true:=by nofun
theorem ID:cw P pO=true:=by nofun
theorem IE:rB P js=true:=by nofun
theorem Dr:cw P js=true:=by nofun
theorem IF:rB P jt=true:=by nofun
theorem Dt:cw P jt=true:=by nofun
theorem IG:rB P ju=true:=by nofun
theorem Du:cw P ju=true:=by nofun
theorem Dv:rB P gY=true:=by nofun
theorem zw:cw P gY=true:=by nofun
theorem Dw:rB P gZ=true:=by nofun
theorem zx:cw P gZ=true:=by nofun
theorem IH:rB P jv=true:=by nofun
theorem Dx:cw P jv=true:=by nofun
theorem Dy:rB P gc=true:=by nofun
theorem zy:cw P gc=true:=by nofun
theorem Dz:rB P gh=true:=by nofun
theorem zz:cw P gh=true:=by nofun
theorem II:rB P jw=true:=by nofun
theorem D0:cw P jw=true:=by nofun
theorem D1:rB P gj=true:=by nofun
theorem z5:cw P gj=true:=by nofun
theorem D2:rB P gm=true:=by nofun
theorem z6:cw P gm=true:=by nofun
theorem TL:rB P w6=true:=by nofun
theorem LM:cw P w6=true:=by nofun
theorem LN:rB P dD=true:=by nofun
theorem IJ:cw P dD=true:=by nofun
theorem LP:rB P pP=true:=by nofun
theorem IK:cw P pP=true:=by nofun
theorem LQ:rB P pQ=true:=by nofun
theorem IL:cw P pQ=true:=by nofun
theorem IM:rB P jx=true:=by nofun
theorem D3:cw P jx=true:=by nofun
theorem IP:rB P jy=true:=by nofun
theorem D4:cw P jy=true:=by nofun
theorem IQ:rB P jz=true:=by nofun
theorem D5:cw P jz=true:=by nofun
theorem D6:rB P gn=true:=by nofun
theorem z7:cw P gn=true:=by nofun
theorem D7:rB P gp=true:=by nofun
theorem z8:cw P gp=true:=by nofun
theorem IS:rB P j0=true:=by nofun
theorem D8:cw P j0=true:=by nofun
theorem D9:rB P gr=true:=by nofun
theorem z9:cw P gr=true:=by nofun
theorem EA:rB P gu=true:=by nofun
theorem AA:cw P gu=true:=by nofun
theorem IU:rB P j1=true:=by nofun
theorem EB:cw P j1=true:=by nofun
theorem EC:rB P gv=true:=by nofun
theorem AD:cw P gv=true:=by nofun
theorem ED:rB P gw=true:=by nofun
theorem AE:cw P gw=true:=by nofun
theorem TM:rB P w7=true:=by nofun
theorem LR:cw P w7=true:=by nofun
theorem LU:rB P dE=true:=by nofun
theorem IV:cw P dE=true:=by nofun
theorem LV:rB P pR=true:=by nofun
theorem IW:cw P pR=true:=by nofun
theorem LW:rB P pS=true:=by nofun
theorem IX:cw P pS=true:=by nofun
theorem IY:rB P j2=true:=by nofun
theorem EE:cw P j2=true:=by nofun
theorem IZ:rB P j3=true:=by nofun
theorem EF:cw P j3=true:=by nofun
theorem Ia:rB P j4=true:=by nofun
theorem EG:cw P j4=true:=by nofun
theorem EH:rB P gx=true:=by nofun
theorem AF:cw P gx=true:=by nofun
theorem EI:rB P gy=true:=by nofun
theorem AG:cw P gy=true:=by nofun
theorem Ib:rB P j6=true:=by nofun
theorem EJ:cw P j6=true:=by nofun
theorem EK:rB P gz=true:=by nofun
theorem AH:cw P gz=true:=by nofun
theorem EL:rB P g0=true:=by nofun
theorem AI:cw P g0=true:=by nofun
theorem Ic:rB P j7=true:=by nofun
theorem EM:cw P j7=true:=by nofun
theorem EN:rB P g6=true:=by nofun
theorem AJ:cw P g6=true:=by nofun
theorem EO:rB P g8=true:=by nofun
theorem AK:cw P g8=true:=by nofun
theorem TN:rB P w8=true:=by nofun
theorem LX:cw P w8=true:=by nofun
theorem LY:rB P dF=true:=by nofun
theorem Ie:cw P dF=true:=by nofun
theorem LZ:rB P pT=true:=by nofun
theorem Ig:cw P pT=true:=by nofun
theorem La:rB P pU=true:=by nofun
theorem Ih:cw P pU=true:=by nofun
theorem Ii:rB P j8=true:=by nofun
theorem EP:cw P j8=true:=by nofun
theorem Ij:rB P j9=true:=by nofun
theorem ER:cw P j9=true:=by nofun
theorem Ik:rB P kA=true:=by nofun
theorem ES:cw P kA=true:=by nofun
theorem ET:rB P g9=true:=by nofun
theorem AL:cw P g9=true:=by nofun
theorem EU:rB P hM=true:=by nofun
theorem AM:cw P hM=true:=by nofun
theorem Il:rB P kB=true:=by nofun
theorem EV:cw P kB=true:=by nofun
theorem EW:rB P hU=true:=by nofun
theorem AN:cw P hU=true:=by nofun
theorem EX:rB P hV=true:=by nofun
theorem AO:cw P hV=true:=by nofun
theorem Im:rB P kC=true:=by nofun
theorem EY:cw P kC=true:=by nofun
theorem EZ:rB P hW=true:=by nofun
theorem AP:cw P hW=true:=by nofun
theorem Ea:rB P hX=true:=by nofun
theorem AQ:cw P hX=true:=by nofun
theorem TO:Te P (L6 0) (N6 0)=true:=by nofun
theorem TP:Te P (L6 1) (N6 1)=true:=by nofun
theorem TQ:Te P (L6 2) (N6 2)=true:=by nofun
def uD:CE:=⟨F3,[(495740282211,1)]⟩
def Tf:SS:=⟨[(128026154263411,.ref 0)],qO [(1,.cell none)] ⟨.e⟩,2⟩
structure ZP where
 k1:Expr
 k2:Expr
 v:Expr
 u:Expr
 v2:Expr
 p:List Pos
noncomputable def r1C:Stmt→ZP
 | .Assign [.Name _ a] (.Dict [some k1,some k2] [.Subscript v (.Slice _ (some u) _ b) c,v2] d) e=>⟨k1,k2,v,u,v2,[a,b,c,d,e]⟩
 | _=>⟨.Constant .none 0 default,.Constant .none 0 default,.Constant .none 0 default,.Constant .none 0 default,.Constant .none 0 default,[]⟩
def r1:ZP:=r1C (lst P 1)
def Tg (i:Nat):Pos:=(r1 P).p.getD i default
theorem Yu:lst P 1=.Assign [.Name (dec 1701863796) (Tg P 0)] (.Dict [some (r1 P).k1,some (r1 P).k2] [.Subscript (r1 P).v (.Slice none (some (r1 P).u) none (Tg P 1)) (Tg P 2),(r1 P).v2] (Tg P 3)) (Tg P 4):=by nofun
def ilS (b:SV):Option SO:=match cutAt b with
 | some _=>some .ilist
 | none=>none
def Io (lo:Lo) (q:ZP):RM FL:=RM.az (RM.alloc (.dict [])) λd=>match d with
 | .ref n=>RM.az (lo.E uD q.k1) λkv=>match kv with
  | .str x=>RM.az (lo.E uD q.v) λo=>match o with
   | .ref m=>cond (Nat.beq m 0) (RM.az (lo.E uD q.u) λb=>RM.az (RM.made λ_=>ilS b) λvv=>RM.az (mn lo uD [some q.k2] [q.v2]) λr=>RM.az (jS n ((x,vv)::r)) λ_=>RM.az (d8 uD 1701863796 (.ref n)) λ_=>RM.ret .next) RM.bad
   | _=>RM.bad
  | _=>RM.bad
 | _=>RM.bad
def Bt:RM FL:=Io (lw P) (r1 P)
theorem Ip {q:ZP} {p0 p1 p2 p3 p4:Pos} {c:Cx} {mg mb:Str→Option Value} (PG:aY (cG c.w.params) (KK c.w.params) mg mb c.hG) (rm:Rm c LF) {env:Env} {ρ:Nm} (eo:aG c ρ uD env) {l:Addr} {us:List Value} (hl:ρ 0=some l) (hob:c.hG.IsList l us.toArray) (hlen:us.length≤64) (hint:∀ v∈us,∃ i k,v=.int i k)
 {f:FL×SS→Bool} {σ:SS} {s:Shared} (h:bc f (Io (lw c.w.params) q σ)=true) (S:c.SR ρ σ s) {Q:Flow→Shared→Prop} {E:Value→Shared→Prop}
 (hQ:∀ fl σ1 ρ1 s1 v,f (fl,σ1)=true→Ext ρ ρ1→c.SR ρ1 σ1 s1→iG c.ν ρ1 fl v→aT s s1→Q v s1):wpAny c.M c.A (exec (.Assign [.Name (dec 1701863796) p0] (.Dict [some q.k1,some q.k2] [.Subscript q.v (.Slice none (some q.u) none p1) p2,q.v2] p3) p4) env) Q E s:=by
 obtain ⟨outs,e,hf⟩:=fQ h
 have ok:=cP ⟨c.prog,c.w,c.ν,c.hG⟩ (cV PG) rfl LF
 have co:c.Of ⟨c.prog,c.w,c.ν,c.hG⟩:=⟨rfl,rfl,rfl,rfl⟩
 unfold Io at e
 obtain ⟨l0,hl0,hg0⟩:=RM.aO e
 unfold RM.alloc at hl0
 cases z:Nat.blt σ.nx 1024 with
 | false=>rw [z] at hl0; cases hl0
 | true =>
 rw [z] at hl0
 cases hl0
 obtain ⟨o1,ho1,uA⟩:=hg0 _ (.head _)
 dsimp only at ho1
 have X:=S.ext s.heap.objs.size
 have S1:c.SR (bA ρ σ.nx s.heap.objs.size) { σ with hp:=σ.hp.put σ.nx (.dict []),nx:=σ.nx+1 } { s with heap:=s.heap.push emptyDict }:=by
  refine SR.alloc (t:=s.toks) (o:=emptyDict) S (aC.mp z) ?_ (Heap.get?_push_size _ rfl) (λb o e=>cK _ e) ⟨[],rfl,trivial⟩
  cases w:s.heap.get? s.heap.objs.size with
  | none=>rfl
  | some o'=>exact absurd (bE w) (Nat.lt_irrefl _)
 have hd:(bA ρ σ.nx s.heap.objs.size) σ.nx=some s.heap.objs.size:=by simp [bA]
 refine wpAny_Assign_stores (wpAny_Dict_any (show true=true from rfl) (show 2=2 from rfl) (List.cons_ne_nil _ _) (show 2≤15 by omega) (pairTrees_cons_walk ?_)) rfl rfl
 obtain ⟨l1,hl1,hg1⟩:=RM.aO ho1
 refine ok.E c _ uD env _ co rm (eo.mono X) _ l1 hl1 _ _ (.refl _) S1 _ E λy1 σ1 ρ1 s1 v1 hm1 x1 S1' r1 sm1=>?_
 obtain ⟨o2,ho2,hs2⟩:=hg1 _ hm1
 dsimp only at ho2
 cases y1<;>first | (cases ho2; done) | skip
 rename_i x
 obtain ⟨t1,rfl⟩:=r1
 obtain ⟨l2,hl2,hg2⟩:=RM.aO ho2
 refine Subscript_ ?_
 refine ok.E c _ uD env _ co rm (eo.mono (X.trans x1)) _ l2 hl2 _ _ (.refl _) S1' _ E λy2 σ2 ρ2 s2 v2 hm2 x2 S2 r2 sm2=>?_
 obtain ⟨o3,ho3,hs3⟩:=hg2 _ hm2
 dsimp only at ho3
 cases y2<;>first | (cases ho3; done) | skip
 rename_i m
 cases zm:Nat.beq m 0 with
 | false=>dsimp only at ho3; rw [zm] at ho3; cases ho3
 | true =>
 dsimp only at ho3
 rw [zm] at ho3
 have zm:=ar zm
 subst zm
 obtain ⟨l',hl',rfl⟩:=r2
 rw [x2 _ _ (x1 _ _ (X _ _ hl))] at hl'
 cases hl'
 dsimp only [cond_true] at ho3
 obtain ⟨l3,hl3,hg3⟩:=RM.aO ho3
 refine wpAny_Slice (aP ?_)
 refine ok.E c _ uD env _ co rm (eo.mono (X.trans (x1.trans x2))) _ l3 hl3 _ _ (.refl _) S2 _ E λy3 σ3 ρ3 s3 v3 hm3 x3 S3 r3 sm3=>?_
 refine aP ?_
 obtain ⟨o4,ho4,hs4⟩:=hg3 _ hm3
 obtain ⟨l4,hl4,hg4⟩:=RM.aO ho4
 obtain ⟨so,q4,hx4,rfl⟩:=iI hl4
 dsimp only at q4
 unfold ilS at q4
 split at q4
 case h_2=>cases q4
 rename_i cb hcb
 cases q4
 have p2:=nM hcb r3
 generalize hso:({ cls:=.type "slice",data:=.fields #[.none,v3,.none] }:Obj)=osl
 have k4:∀ b o,s3.heap.get? b=some o→(s3.heap.push osl).get? b=some o:=λb o e=>cK _ e
 have S4:=S3.grow (t:=s3.toks) k4
 have hsl:(s3.heap.push osl).IsSliceOf s3.heap.objs.size .none v3 .none:=by subst hso; exact Heap.IsSliceOf.new _ _ _ _
 have hob4:(s3.heap.push osl).IsList l us.toArray:=let ⟨o,ho,r⟩:=hob; ⟨o,k4 _ _ (S3.gk _ _ ho),r⟩
 refine tail_any (ops:=[.ref s3.heap.objs.size,.ref l]) (let ⟨o,ho,hc,_⟩:=hob4; ⟨o,ho,hc⟩) slot_list_getitem.lookup ?_ rfl
 refine wpAny_getItem_list_slice hob4 hsl (IsPart.none) p2 .none (by simp) ?_ (by rw [List.size_toArray,sizeLine_eq]; omega)
 rw [slicePick_plain]
 refine iJ (Q:=λv s'=>wpAny c.M c.A (evalPairs (pairTrees [some q.k2] [q.v2] env p3)) (λr s₃=>wpAny c.M c.A (storeAll s.heap.objs.size ((Value.str (dec x) t1,v)::r)) (λ_ s₂=>wpAny c.M c.A (assignAll (Value.ref s.heap.objs.size) ((assignEach [Expr.Name (dec 1701863796) p0] env).map (·.2))) (λ_=>Q Flow.next) E s₂) E s₃) E s') (tk:=s3.toks) (so:=SO.ilist) (o:=bF _ 0) S4 hx4 rfl ⟨_,0,rfl,?_,?_⟩ λρ5 s5 v5 x5 S5 r5 sm5=>?_
 ·simp
  omega
 ·intro v hv
  have hv:=List.mem_of_mem_take hv
  have hv:=List.mem_of_mem_drop hv
  exact hint v (by simpa using hv)
 obtain ⟨o5,ho5,hs5⟩:=hg4 _ (.head _)
 obtain ⟨l6,hl6,hg6⟩:=RM.aO ho5
 have x05:=X.trans (x1.trans (x2.trans (x3.trans x5)))
 refine qk ok co rm _ _ (eo.mono x05) _ l6 hl6 _ _ (.refl _) S5 _ E λps σ6 ρ6 s6 vs hm6 x6 S6 r6 sm6=>?_
 obtain ⟨o7,ho7,hs7⟩:=hg6 _ hm6
 obtain ⟨l7,hl7,hg7⟩:=RM.aO ho7
 have xd:=(x1.trans (x2.trans (x3.trans (x5.trans x6)))) _ _ hd
 refine ql (ps:=(x,.ref σ3.nx)::ps) (l:=(.str (dec x) t1,v5)::vs) xd ⟨⟨⟨t1,rfl⟩,r5.mono x6⟩,r6⟩ σ6 l7 hl7 ρ6 s6 (.refl _) S6 _ E λy8 σ8 ρ8 s8 u8 hm8 x8 S8 r8 sm8=>?_
 obtain ⟨o9,ho9,hs9⟩:=hg7 _ hm8
 obtain ⟨l9,hl9,hg9⟩:=RM.aO ho9
 show wpAny c.M c.A (standAt p0 >>= λ_=>bindName env (dec 1701863796) _) _ E s8
 refine aF (wpAny_standAt (wpAny_bindName ?_))
 refine eI (x:=1701863796) (sv:=.ref σ.nx) (eo.mono (x05.trans (x6.trans x8))) ⟨_,x8 _ _ xd,rfl⟩ σ8 l9 hl9 ρ8 s8 (.refl _) S8 _ E λy10 σ10 ρ10 s10 u10 hm10 x10 S10 r10 sm10=>?_
 obtain ⟨o11,ho11,hs11⟩:=hg9 _ hm10
 cases ho11
 have mem:(FL.next,σ10)∈outs:=uA _ (hs2 _ (hs3 _ (hs4 _ (hs5 _ (hs7 _ (hs9 _ (hs11 _ (.head _))))))))
 exact hQ .next σ10 ρ10 s10 _ (hf _ mem) (x05.trans (x6.trans (x8.trans x10))) S10 rfl ((aT.mk s _ s.toks).trans (sm1.trans (sm2.trans (sm3.trans ((aT.mk _ _ _).trans (sm5.trans (sm6.trans (sm8.trans sm10))))))))
theorem Lb {c:Cx} {mg mb:Str→Option Value} (PG:aY (cG c.w.params) (KK c.w.params) mg mb c.hG) (rm:Rm c LF) {env:Env} {ρ:Nm} (eo:aG c ρ uD env) {l:Addr} {us:List Value} (hl:ρ 0=some l) (hob:c.hG.IsList l us.toArray) (hlen:us.length≤64) (hint:∀ v∈us,∃ i k,v=.int i k)
 {f:FL×SS→Bool} {σ:SS} {s:Shared} (h:bc f (Bt c.w.params σ)=true) (S:c.SR ρ σ s) {Q:Flow→Shared→Prop} {E:Value→Shared→Prop}
 (hQ:∀ fl σ1 ρ1 s1 v,f (fl,σ1)=true→Ext ρ ρ1→c.SR ρ1 σ1 s1→iG c.ν ρ1 fl v→aT s s1→Q v s1):wpAny c.M c.A (exec (lst c.w.params 1) env) Q E s:=by
 rw [Yu]
 unfold Bt at h
 generalize hq:r1 c.w.params=q at *
 generalize Tg c.w.params=pp at *
 exact Ip (c:=c) (q:=q) (p0:=pp 0) (p1:=pp 1) (p2:=pp 2) (p3:=pp 3) (p4:=pp 4) (ρ:=ρ) (l:=l) (us:=us) (f:=f) (σ:=σ) (s:=s) PG rm eo hl hob hlen hint h S hQ
def lsI (t:IT):SV:=match t with
 | .c i=>Int.rec (motive:=λ_=>SV) (λ_=>.anyN) (λn=>.int (.c (.negSucc n))) i
 | .v n=>.int (.v n)
def lsV (v:SV):SV:=match v with
 | .int t=>lsI t
 | v=>v
def Yv (es:List (Nat×SV)):List (Nat×SV):=List.rec (motive:=λ_=>List (Nat×SV)) [] (λp _ ih=>(p.1,lsV p.2)::ih) es
def jD (σ:SS):SS:=match σ.hp.get (refOf σ.loc 1701863796) with
 | some (.dict es)=>⟨σ.loc,σ.hp.put (refOf σ.loc 1701863796) (.dict (Yv es)),σ.nx⟩
 | _=>σ
def Yw:Sm:=⟨[.ref 79,.ref 89,.ref 90,.ref 223,.ref 224],cX (F6 [] []),400,[]⟩
def TR (p:FL×SS):Bool:=aL (cB p.1) (Option.rec (motive:=λ_=>Bool) false (λst=>aL (jW (lk st.em 224) 1) (eA st.em st.tm lq (cX (F6 [] [])) (jD p.2)) false)
 (inf Yw [.ref (refOf p.2.loc 1953523051),.ref (refOf p.2.loc 1701863796),.ref (refOf p.2.loc 7239535),.ref (refOf p.2.loc 495622906222),.ref 1] (jD p.2).hp)) false
def a5B:Bool:=bc (λp=>aL (cB p.1) (bc (λp=>aL (cB p.1) (bc TR (bG (lw P) uD [lst P 2,lst P 3,lst P 4,lst P 5] p.2)) false) (Bt P p.2)) false) ((lw P).S uD (lst P 0) Tf)
set_option backward.match.sparseCases true in
theorem sG {env:Env}:∀ {a b:List Stmt},execs (a++b) env=execs a env >>= λf=>match f with | .next=>execs b env | f=>pure f
 | [],b=>by
  show execs b env=pure Flow.next >>= _
  rw [pure_bind]
 | st::a,b=>by
  rw [List.cons_append,execs_cons,execs_cons,bind_assoc]
  congr 1
  funext f
  cases f with
  | next=>exact sG
  | _=>rw [pure_bind]
theorem md {M:Model} {A:Around} {E:Value→Shared→Prop} {s:Shared} {env:Env} {a b:List Stmt} {Q:Flow→Shared→Prop} (h:wpAny M A (execs a env) (λf s'=>f=.next∧wpAny M A (execs b env) Q E s') E s):wpAny M A (execs (a++b) env) Q E s:=by
 rw [sG]
 refine aF (bI h (λf s' ⟨q,r⟩=>?_) λ_ _ q=>q)
 subst q
 exact r
theorem SR.Yx {P:Params} {ν:Nat→Int} {hG:Heap} {fz:Addr→Obj→Prop} {L:Addr} {ρ:Nm} {σ:SS} {s:Shared} {n:Nat} {so so':SO} (S:SR P ν hG fz L ρ σ s) (e:σ.hp.get n=some so) (hr:∀ o,OR P ν ρ so o→OR P ν ρ so' o) (hs:ag so=false) (hs':ag so'=false) :
 SR P ν hG fz L ρ ⟨σ.loc,σ.hp.put n so',σ.nx⟩ s:=by
 have hlt:=Hp.Em e
 have old:∀ k sk,(σ.hp.put n so').get k=some sk→∃ sk',σ.hp.get k=some sk'∧(ag sk=false→ag sk'=false):=λk sk q=>by
  rw [Hp.d6 hlt] at q
  by_cases z:k=n
  ·exact ⟨so,z▸e,λ_=>hs⟩
  ·simp only [z,if_false] at q; exact ⟨_,q,id⟩
 refine ⟨S.fzk,S.fc,S.gk,S.gd,S.loc,S.Lf,λk sk q=>?_,λn₁ n₂ s₁ s₂ b e₁ e₂ r₁ r₂ k₁ k₂=>?_,S.dom⟩
 ·rw [Hp.d6 hlt] at q
  by_cases z:k=n
  ·subst z
   simp only [if_true] at q
   cases q
   obtain ⟨a,o,g1,g2,g3,g4,g5⟩:=S.hp k so e
   exact ⟨a,o,g1,g2,hr o g3,g4,λ_=>g5 hs⟩
  ·simp only [z,if_false] at q
   exact S.hp k sk q
 ·obtain ⟨_,f₁,w₁⟩:=old _ _ e₁
  obtain ⟨_,f₂,w₂⟩:=old _ _ e₂
  exact S.inj _ _ _ _ b f₁ f₂ r₁ r₂ (w₁ k₁) (w₂ k₂)
theorem TS {ν:Nat→Int} {ρ:Nm} {t:IT} {v:Value} (h:VR ν ρ (.int t) v):VR ν ρ (lsI t) v:=by
 cases t with
 | v n=>exact h
 | c i =>
  cases i with
  | ofNat n=>obtain ⟨k,rfl⟩:=h; exact ⟨n,k,Int.natCast_nonneg n,rfl⟩
  | negSucc n=>exact h
theorem TU {ν:Nat→Int} {ρ:Nm} {x:SV} {v:Value} (h:VR ν ρ x v):VR ν ρ (lsV x) v:=by
 cases x with
 | int t=>exact TS h
 | _=>exact h
theorem Bu {P:Params} {ν:Nat→Int} {ρ:Nm}:∀ {es:List (Nat×SV)} {ds:List DictEntry},dk P ν ρ es ds→dk P ν ρ (Yv es) ds
 | [],_,h=>h
 | p::r,ds,h=>by
  obtain ⟨e,t,rfl,g,hr⟩:=h.eN
  exact ⟨⟨g.1,g.2.1,TU g.2.2⟩,Bu hr⟩
theorem SR.jD {P:Params} {ν:Nat→Int} {hG:Heap} {fz:Addr→Obj→Prop} {L:Addr} {ρ:Nm} {σ:SS} {s:Shared} (S:SR P ν hG fz L ρ σ s):SR P ν hG fz L ρ (Mine.jD σ) s:=by
 unfold Mine.jD
 cases h:σ.hp.get (refOf σ.loc 1701863796) with
 | none=>exact S
 | some so=>cases so with
  | dict es=>exact SR.Yx S h (λo ho=>let ⟨ds,e,hes⟩:=ho; ⟨ds,e,Bu hes⟩) rfl rfl
  | _=>exact S
theorem AR {L0 L1 L2 L3 L4 L5:Stmt} {row:RM FL} {c:Cx} {mg mb:Str→Option Value} (PG:aY (cG c.w.params) (KK c.w.params) mg mb c.hG) (rm:Rm c LF) {env:Env} {ρ:Nm} (eo:aG c ρ uD env) {l:Addr} {us:List Value} (hl:ρ 0=some l) (hob:c.hG.IsList l us.toArray) (hlen:us.length≤64) (hint:∀ v∈us,∃ i k,v=.int i k)
 (hrow:∀ {ρ:Nm} {f:FL×SS→Bool} {σ:SS} {s:Shared} {Q:Flow→Shared→Prop} {E:Value→Shared→Prop},aG c ρ uD env→ρ 0=some l→bc f (row σ)=true→c.SR ρ σ s→(∀ fl σ1 ρ1 s1 v,f (fl,σ1)=true→Ext ρ ρ1→c.SR ρ1 σ1 s1→iG c.ν ρ1 fl v→aT s s1→Q v s1)→wpAny c.M c.A (exec L1 env) Q E s)
 {s0:Shared} (S:c.SR ρ Tf s0) (h:bc (λp=>aL (cB p.1) (bc (λp=>aL (cB p.1) (bc TR (bG (lw c.w.params) uD [L2,L3,L4,L5] p.2)) false) (row p.2)) false) ((lw c.w.params).S uD L0 Tf)=true) {rest:List Stmt} {Q:Flow→Shared→Prop} {E:Value→Shared→Prop}
 (hQ:∀ ν' ρ' s1 (nu:eE ν'),SR c.w.params ν' c.hG c.fz c.L ρ' (bH lq (cX (F6 [] [])) 256) s1→aG (c.nu ν' nu.b nu.s) ρ' eH env→aT s0 s1→wpAny c.M c.A (execs rest env) Q E s1) :
 wpAny c.M c.A (execs (L0::L1::L2::L3::L4::L5::rest) env) Q E s0:=by
 have step:∀ {st:Stmt} {rs:List Stmt} {s:Shared},wpAny c.M c.A (exec st env) (λf s'=>f=.next∧wpAny c.M c.A (execs rs env) Q E s') E s→wpAny c.M c.A (execs (st::rs) env) Q E s:=λ{st rs s} w =>
  bL (bI w (λf s' ⟨q,r⟩=>by subst q; exact r) λ_ _ q=>q)
 refine step (fS PG rm eo h S λfl σ1 ρ1 s1 v hf x1 S1 r1 sm1=>?_)
 obtain ⟨hn,hf2⟩:=aH hf
 have hn:=bW hn
 dsimp only at hn hf2
 clear hf
 subst hn
 refine ⟨r1,step (hrow (eo.mono x1) (x1 _ _ hl) hf2 S1 λfl2 σ2 ρ2 s2 v2 hf3 x2 S2 r2 sm2=>?_)⟩
 obtain ⟨hn,hf4⟩:=aH hf3
 have hn:=bW hn
 dsimp only at hn hf4
 clear hf3
 subst hn
 refine ⟨r2,?_⟩
 have e4:L2::L3::L4::L5::rest=[L2,L3,L4,L5]++rest:=rfl
 rw [e4]
 refine md (dg PG rm ((eo.mono x1).mono x2) hf4 S2 λfl3 σ3 ρ3 s3 v3 hf5 x3 S3 r3 sm3=>?_)
 unfold TR at hf5
 obtain ⟨hn,hf6⟩:=aH hf5
 have hn:=bW hn
 dsimp only at hn hf6
 clear hf5
 subst hn
 refine ⟨r3,?_⟩
 generalize hxs:[SV.ref (refOf σ3.loc 1953523051),.ref (refOf σ3.loc 1701863796),.ref (refOf σ3.loc 7239535),.ref (refOf σ3.loc 495622906222),.ref 1]=xs at hf6
 cases q:inf Yw xs (jD σ3).hp with
 | none=>rw [q] at hf6; cases hf6
 | some st =>
 rw [q] at hf6
 obtain ⟨h224,hf7⟩:=aH hf6
 have h224:=fg h224
 have M:=cN (ν:=c.ν) (ρ:=ρ3) hf7
 have S4:=SR.qR S3.jD M (cY H8 (nx:=256) (by omega) (by omega)) (λp hp=>(ky H8 hp).mono (bB (by omega)) λ_ _=>rfl) (λp hp=>dB.mono (kz (fA hp)) (bB (by omega)) λ_ _=>rfl)
 refine hQ _ _ s3 (eE.mt ⟨c.νb,c.νs⟩ M.b) S4 ⟨eo.kind,eo.names,eo.L,eo.g,eo.b,λx k e=>?_⟩ (sm1.trans (sm2.trans sm3))
 unfold eH at e
 rw [aQ] at e
 by_cases w:(495740282211:Nat)=x
 ·rw [if_pos w] at e
  cases e
  obtain ⟨a,e1,e2⟩:=eo.cells x 1 (by rw [← w]; rfl)
  refine ⟨a,e1,?_⟩
  unfold i8 rF
  rw [if_pos (by omega),h224]
  exact x3 _ _ (x2 _ _ (x1 _ _ e2))
 ·rw [if_neg w] at e; cases e
theorem Eb {c:Cx} {mg mb:Str→Option Value} (PG:aY (cG c.w.params) (KK c.w.params) mg mb c.hG) (rm:Rm c LF) {env:Env} {ρ:Nm} (eo:aG c ρ uD env) {l:Addr} {us:List Value} (hl:ρ 0=some l) (hob:c.hG.IsList l us.toArray) (hlen:us.length≤64) (hint:∀ v∈us,∃ i k,v=.int i k)
 {s0:Shared} (S:c.SR ρ Tf s0) (h:a5B c.w.params=true) {rest:List Stmt} {Q:Flow→Shared→Prop} {E:Value→Shared→Prop}
 (hQ:∀ ν' ρ' s1 (nu:eE ν'),SR c.w.params ν' c.hG c.fz c.L ρ' (bH lq (cX (F6 [] [])) 256) s1→aG (c.nu ν' nu.b nu.s) ρ' eH env→aT s0 s1→wpAny c.M c.A (execs rest env) Q E s1) :
 wpAny c.M c.A (execs (lst c.w.params 0::lst c.w.params 1::lst c.w.params 2::lst c.w.params 3::lst c.w.params 4::lst c.w.params 5::rest) env) Q E s0:=by
 unfold a5B at h
 have hr:∀ {ρ:Nm} {f:FL×SS→Bool} {σ:SS} {s:Shared} {Q:Flow→Shared→Prop} {E:Value→Shared→Prop},aG c ρ uD env→ρ 0=some l→bc f (Bt c.w.params σ)=true→c.SR ρ σ s→(∀ fl σ1 ρ1 s1 v,f (fl,σ1)=true→Ext ρ ρ1→c.SR ρ1 σ1 s1→iG c.ν ρ1 fl v→aT s s1→Q v s1)→wpAny c.M c.A (exec (lst c.w.params 1) env) Q E s:=λ{ρ f σ s Q E} a b d e g=>Lb (c:=c) PG rm a b hob hlen hint d e g
 generalize lst c.w.params=L at *
 exact AR (c:=c) PG rm eo hl hob hlen hint hr S h hQ
theorem Ec:fy P eX=true:=by nofun
theorem AS:fy P js=true:=by nofun
theorem AU:fy P jt=true:=by nofun
theorem xS:fy P gY=true:=by nofun
theorem xT:fy P gZ=true:=by nofun
theorem xU:fy P gc=true:=by nofun
theorem xV:fy P gh=true:=by nofun
theorem xW:fy P gj=true:=by nofun
theorem xX:fy P gm=true:=by nofun
theorem Ed:fy P pP=true:=by nofun
theorem AV:fy P jx=true:=by nofun
theorem AW:fy P jy=true:=by nofun
theorem xY:fy P gn=true:=by nofun
theorem xZ:fy P gp=true:=by nofun
theorem xa:fy P gr=true:=by nofun
theorem xb:fy P gu=true:=by nofun
theorem xc:fy P gv=true:=by nofun
theorem xf:fy P gw=true:=by nofun
theorem Ee:fy P pR=true:=by nofun
theorem AX:fy P j2=true:=by nofun
theorem AY:fy P j3=true:=by nofun
theorem xg:fy P gx=true:=by nofun
theorem xh:fy P gy=true:=by nofun
theorem xi:fy P gz=true:=by nofun
theorem xj:fy P g0=true:=by nofun
theorem xk:fy P g6=true:=by nofun
theorem xm:fy P g8=true:=by nofun
theorem Ef:fy P pT=true:=by nofun
theorem AZ:fy P j8=true:=by nofun
theorem Aa:fy P j9=true:=by nofun
theorem xo:fy P g9=true:=by nofun
theorem xp:fy P hM=true:=by nofun
theorem xq:fy P hU=true:=by nofun
theorem xr:fy P hV=true:=by nofun
theorem xt:fy P hW=true:=by nofun
theorem xu:fy P hX=true:=by nofun
theorem Yy:AllP (λq:Nat×Cfg=>P5 P q.2.sort q.2) ax:=AllP.c (cE (c:=Sk) (xG P) (TA P)) <| AllP.c (cE (c:=w5) (kD P) (Kv P)) <| AllP.c (cE (c:=dC) (kE P) (Hn P)) <| AllP.c (av (c:=eX) rfl (bJ P) (Ec P)) <| AllP.c (cE (c:=pO) (bD P) (Ho P)) <| AllP.c (av (c:=js) rfl (bJ P) (AS P)) <| AllP.c (av (c:=jt) rfl (bJ P) (AU P)) <| AllP.c (cE (c:=ju) (bD P) (Dc P)) <| AllP.c (av (c:=gY) rfl (bJ P) (xS P)) <| AllP.c (av (c:=gZ) rfl (bJ P) (xT P)) <| AllP.c (cE (c:=jv) (bD P) (Dd P)) <| AllP.c (av (c:=gc) rfl (bJ P) (xU P)) <| AllP.c (av (c:=gh) rfl (bJ P) (xV P)) <| AllP.c (cE (c:=jw) (bD P) (De P)) <| AllP.c (av (c:=gj) rfl (bJ P) (xW P)) <| AllP.c (av (c:=gm) rfl (bJ P) (xX P)) <| AllP.c (cE (c:=w6) (kD P) (Kw P)) <| AllP.c (cE (c:=dD) (kE P) (Hq P)) <| AllP.c (av (c:=pP) rfl (bJ P) (Ed P)) <| AllP.c (cE (c:=pQ) (bD P) (Hr P)) <| AllP.c (av (c:=jx) rfl (bJ P) (AV P)) <| AllP.c (av (c:=jy) rfl (bJ P) (AW P)) <| AllP.c (cE (c:=jz) (bD P) (Df P)) <| AllP.c (av (c:=gn) rfl (bJ P) (xY P)) <| AllP.c (av (c:=gp) rfl (bJ P) (xZ P)) <| AllP.c (cE (c:=j0) (bD P) (Dg P)) <| AllP.c (av (c:=gr) rfl (bJ P) (xa P)) <| AllP.c (av (c:=gu) rfl (bJ P) (xb P)) <| AllP.c (cE (c:=j1) (bD P) (Dh P)) <| AllP.c (av (c:=gv) rfl (bJ P) (xc P)) <| AllP.c (av (c:=gw) rfl (bJ P) (xf P)) <| AllP.c (cE (c:=Sl) (xG P) (TB P)) <| AllP.c (cE (c:=w7) (kD P) (Kx P)) <| AllP.c (cE (c:=dE) (kE P) (Hs P)) <| AllP.c (av (c:=pR) rfl (bJ P) (Ee P)) <| AllP.c (cE (c:=pS) (bD P) (Ht P)) <| AllP.c (av (c:=j2) rfl (bJ P) (AX P)) <| AllP.c (av (c:=j3) rfl (bJ P) (AY P)) <| AllP.c (cE (c:=j4) (bD P) (Di P)) <| AllP.c (av (c:=gx) rfl (bJ P) (xg P)) <| AllP.c (av (c:=gy) rfl (bJ P) (xh P)) <| AllP.c (cE (c:=j6) (bD P) (Dj P)) <| AllP.c (av (c:=gz) rfl (bJ P) (xi P)) <| AllP.c (av (c:=g0) rfl (bJ P) (xj P)) <| AllP.c (cE (c:=j7) (bD P) (Dk P)) <| AllP.c (av (c:=g6) rfl (bJ P) (xk P)) <| AllP.c (av (c:=g8) rfl (bJ P) (xm P)) <| AllP.c (cE (c:=w8) (kD P) (Ky P)) <| AllP.c (cE (c:=dF) (kE P) (Hu P)) <| AllP.c (av (c:=pT) rfl (bJ P) (Ef P)) <| AllP.c (cE (c:=pU) (bD P) (Hv P)) <| AllP.c (av (c:=j8) rfl (bJ P) (AZ P)) <| AllP.c (av (c:=j9) rfl (bJ P) (Aa P)) <| AllP.c (cE (c:=kA) (bD P) (Dl P)) <| AllP.c (av (c:=g9) rfl (bJ P) (xo P)) <| AllP.c (av (c:=hM) rfl (bJ P) (xp P)) <| AllP.c (cE (c:=kB) (bD P) (Dm P)) <| AllP.c (av (c:=hU) rfl (bJ P) (xq P)) <| AllP.c (av (c:=hV) rfl (bJ P) (xr P)) <| AllP.c (cE (c:=kC) (bD P) (Dn P)) <| AllP.c (av (c:=hW) rfl (bJ P) (xt P)) <| AllP.c (av (c:=hX) rfl (bJ P) (xu P)) <| trivial
theorem Yz:AllP (λq:Nat×Cfg=>q.2.sort≠7305076→rB P q.2=true∧cw P q.2=true) ax:=AllP.c (λh=>absurd rfl h) <| AllP.c (λ_=>⟨TK P,LI P⟩) <| AllP.c (λ_=>⟨LJ P,IA P⟩) <| AllP.c (λ_=>⟨LK P,IB P⟩) <| AllP.c (λ_=>⟨LL P,ID P⟩) <| AllP.c (λ_=>⟨IE P,Dr P⟩) <| AllP.c (λ_=>⟨IF P,Dt P⟩) <| AllP.c (λ_=>⟨IG P,Du P⟩) <| AllP.c (λ_=>⟨Dv P,zw P⟩) <| AllP.c (λ_=>⟨Dw P,zx P⟩) <| AllP.c (λ_=>⟨IH P,Dx P⟩) <| AllP.c (λ_=>⟨Dy P,zy P⟩) <| AllP.c (λ_=>⟨Dz P,zz P⟩) <| AllP.c (λ_=>⟨II P,D0 P⟩) <| AllP.c (λ_=>⟨D1 P,z5 P⟩) <| AllP.c (λ_=>⟨D2 P,z6 P⟩) <| AllP.c (λ_=>⟨TL P,LM P⟩) <| AllP.c (λ_=>⟨LN P,IJ P⟩) <| AllP.c (λ_=>⟨LP P,IK P⟩) <| AllP.c (λ_=>⟨LQ P,IL P⟩) <| AllP.c (λ_=>⟨IM P,D3 P⟩) <| AllP.c (λ_=>⟨IP P,D4 P⟩) <| AllP.c (λ_=>⟨IQ P,D5 P⟩) <| AllP.c (λ_=>⟨D6 P,z7 P⟩) <| AllP.c (λ_=>⟨D7 P,z8 P⟩) <| AllP.c (λ_=>⟨IS P,D8 P⟩) <| AllP.c (λ_=>⟨D9 P,z9 P⟩) <| AllP.c (λ_=>⟨EA P,AA P⟩) <| AllP.c (λ_=>⟨IU P,EB P⟩) <| AllP.c (λ_=>⟨EC P,AD P⟩) <| AllP.c (λ_=>⟨ED P,AE P⟩) <| AllP.c (λh=>absurd rfl h) <| AllP.c (λ_=>⟨TM P,LR P⟩) <| AllP.c (λ_=>⟨LU P,IV P⟩) <| AllP.c (λ_=>⟨LV P,IW P⟩) <| AllP.c (λ_=>⟨LW P,IX P⟩) <| AllP.c (λ_=>⟨IY P,EE P⟩) <| AllP.c (λ_=>⟨IZ P,EF P⟩) <| AllP.c (λ_=>⟨Ia P,EG P⟩) <| AllP.c (λ_=>⟨EH P,AF P⟩) <| AllP.c (λ_=>⟨EI P,AG P⟩) <| AllP.c (λ_=>⟨Ib P,EJ P⟩) <| AllP.c (λ_=>⟨EK P,AH P⟩) <| AllP.c (λ_=>⟨EL P,AI P⟩) <| AllP.c (λ_=>⟨Ic P,EM P⟩) <| AllP.c (λ_=>⟨EN P,AJ P⟩) <| AllP.c (λ_=>⟨EO P,AK P⟩) <| AllP.c (λ_=>⟨TN P,LX P⟩) <| AllP.c (λ_=>⟨LY P,Ie P⟩) <| AllP.c (λ_=>⟨LZ P,Ig P⟩) <| AllP.c (λ_=>⟨La P,Ih P⟩) <| AllP.c (λ_=>⟨Ii P,EP P⟩) <| AllP.c (λ_=>⟨Ij P,ER P⟩) <| AllP.c (λ_=>⟨Ik P,ES P⟩) <| AllP.c (λ_=>⟨ET P,AL P⟩) <| AllP.c (λ_=>⟨EU P,AM P⟩) <| AllP.c (λ_=>⟨Il P,EV P⟩) <| AllP.c (λ_=>⟨EW P,AN P⟩) <| AllP.c (λ_=>⟨EX P,AO P⟩) <| AllP.c (λ_=>⟨Im P,EY P⟩) <| AllP.c (λ_=>⟨EZ P,AP P⟩) <| AllP.c (λ_=>⟨Ea P,AQ P⟩) <| trivial
theorem Lc:af (λq:Nat×Cfg=>aL (Nat.beq q.2.sort 7305076) true (n6 (λs=>Nat.beq s q.2.sort) four)) ax=true:=by nofun
theorem Good.four {c:Cfg} (g:Good c):c.sort∈four:=by
 obtain ⟨q,hq,rfl,hn⟩:=g
 have h:=aE Lc q hq
 cases z:Nat.beq q.2.sort 7305076 with
 | true=>exact absurd (ar z) hn
 | false =>
  rw [z] at h
  replace h:n6 (λs=>Nat.beq s q.2.sort) Mine.four=true:=h
  obtain ⟨s,hs,e⟩:=iQ h
  rw [← ar e]
  exact hs
theorem Ld:af (λq:Nat×Cfg=>aL (Nat.beq q.2.sort 7827314) (n6 (λk=>Nat.beq k q.1) [7471457,7471713,7471458,7471714]) true) ax=true:=by nofun
theorem xv:bP ax=true:=by nofun
theorem Iq {q:Nat×Cfg} (hq:q∈ax) (hs:q.2.sort=7827314):q.2=dC∨q.2=dD∨q.2=dE∨q.2=dF:=by
 have h:=aE Ld q hq
 rw [hs,Nat.beq_refl] at h
 replace h:n6 (λk=>Nat.beq k q.1) [7471457,7471713,7471458,7471714]=true:=h
 obtain ⟨k,hk,e⟩:=iQ h
 have e:=ar e
 have hl:lk ax q.1=some q.2:=aI xv q hq
 rw [← e] at hl
 simp only [List.mem_cons,List.mem_nil_iff,or_false] at hk
 rcases hk with rfl | rfl | rfl | rfl
 ·have:lk ax 7471457=some dC:=by nofun
  rw [this] at hl
  exact .inl (aD hl).symm
 ·have:lk ax 7471713=some dD:=by nofun
  rw [this] at hl
  exact .inr (.inl (aD hl).symm)
 ·have:lk ax 7471458=some dE:=by nofun
  rw [this] at hl
  exact .inr (.inr (.inl (aD hl).symm))
 ·have:lk ax 7471714=some dF:=by nofun
  rw [this] at hl
  exact .inr (.inr (.inr ((aD hl).symm)))
theorem Y0:∀ g∈ax,∀ q∈ax,g.2.sort=xC→q.2.sort=xC→tP P g.2 q.2=true:=λg hg q hq e1 e2=>by
 rcases Iq hg e1 with h | h | h | h<;>rcases Iq hq e2 with k | k | k | k<;>rw [h,k]
 ·exact tS P
 ·exact tT P
 ·exact tU P
 ·exact tV P
 ·exact tW P
 ·exact tX P
 ·exact tY P
 ·exact tZ P
 ·exact ta P
 ·exact tc P
 ·exact td P
 ·exact te P
 ·exact tf P
 ·exact tg P
 ·exact th P
 ·exact tj P
theorem Y1 {c1 c2 c3:Cfg} (g1:Good c1) (g2:Good c2) (g3:Good c3):∀ s∈six,s≠cut→nC P s c1.sort c2.sort c3.sort=true:=λs hs hc=>by
 have h1:=g1.four
 simp only [four,List.mem_cons,List.mem_nil_iff,or_false] at h1
 simp only [six,List.mem_cons,List.mem_nil_iff,or_false] at hs
 rcases hs with rfl | rfl | rfl | rfl | rfl | rfl
 ·rcases h1 with h1 | h1 | h1 | h1<;>rw [h1]
  ·exact aE (aE (xH P) _ g2.four) _ g3.four
  ·exact aE (aE (tn P) _ g2.four) _ g3.four
  ·exact aE (aE (xI P) _ g2.four) _ g3.four
  ·exact aE (aE (pj P) _ g2.four) _ g3.four
 ·rcases h1 with h1 | h1 | h1 | h1<;>rw [h1]
  ·exact aE (aE (xJ P) _ g2.four) _ g3.four
  ·exact aE (aE (tq P) _ g2.four) _ g3.four
  ·exact aE (aE (xK P) _ g2.four) _ g3.four
  ·exact aE (aE (pk P) _ g2.four) _ g3.four
 ·rcases h1 with h1 | h1 | h1 | h1<;>rw [h1]
  ·exact aE (aE (tu P) _ g2.four) _ g3.four
  ·exact aE (aE (qS P) _ g2.four) _ g3.four
  ·exact aE (aE (tv P) _ g2.four) _ g3.four
  ·exact aE (aE (mY P) _ g2.four) _ g3.four
 ·rcases h1 with h1 | h1 | h1 | h1<;>rw [h1]
  ·exact aE (aE (xM P) _ g2.four) _ g3.four
  ·exact aE (aE (tw P) _ g2.four) _ g3.four
  ·exact aE (aE (xN P) _ g2.four) _ g3.four
  ·exact aE (aE (pn P) _ g2.four) _ g3.four
 ·rcases h1 with h1 | h1 | h1 | h1<;>rw [h1]
  ·exact aE (aE (pv P) _ g2.four) _ g3.four
  ·exact aE (aE (mZ P) _ g2.four) _ g3.four
  ·exact aE (aE (pw P) _ g2.four) _ g3.four
  ·exact aE (aE (kF P) _ g2.four) _ g3.four
 ·exact absurd rfl hc
theorem TV {c1 c2 c3:Cfg} (g1:Good c1) (g2:Good c2) (g3:Good c3):ph P c1 c2 c3:=by
 have p5:∀ q∈ax,P5 P q.2.sort q.2:=AllP.mem (Yy P)
 have pg:∀ {c:Cfg},Good c→P5 P c.sort c:=λ{c} g=>by
  obtain ⟨q,hq,rfl,_⟩:=g
  exact p5 q hq
 refine ⟨aAy P,λs hs hc=>⟨?_,λq hq e=>e▸p5 q hq⟩,Y1 P g1 g2 g3,λc h=>?_,aAz P,Y0 P⟩
 ·simp only [six,List.mem_cons,List.mem_nil_iff,or_false] at hs
  rcases hs with rfl | rfl | rfl | rfl | rfl | rfl
  ·exact Hk P
  ·exact Hl P
  ·exact DZ P
  ·exact Hm P
  ·exact xF P
  ·exact absurd rfl hc
 ·rcases h with rfl | rfl | rfl<;>exact pg ‹_›
theorem sH {c:Cfg} (g:Good c):rB P c=true∧cw P c=true:=by
 obtain ⟨q,hq,rfl,hn⟩:=g
 exact AllP.mem (Yz P) q hq hn
theorem Y2:∀ i,i<3→Te P (L6 i) (N6 i)=true:=λi h=>by
 have:i=0∨i=1∨i=2:=by omega
 rcases this with rfl | rfl | rfl
 ·exact TO P
 ·exact TP P
 ·exact TQ P
theorem aA4:a5B P=true:=by nofun
theorem Le:(ft P).body=[lst P 0,lst P 1,lst P 2,lst P 3,lst P 4,lst P 5,lst P 6,lst P 7,lst P 8,lst P 9]:=by nofun
theorem TX:cJ (cS (ft P).nm (ft P).params [.ref 0] []) (ft P).cl ⟨a7 (ft P).nm (ft P).params [.ref 0] [],⟨.e⟩,1⟩ []=some (Tf,[(495740282211,1)]):=by nofun
theorem Ir {prog:Program} {w:World} {s₁:Shared} {mg mb:Str→Option Value} {l:Addr} {us:List Value} (PG:aY (cG w.params) (KK w.params) mg mb s₁.heap) (hl:s₁.heap.IsList l us.toArray) (hlen:us.length≤64) (hint:∀ v∈us,∃ i k,v=.int i k) {R:Result→Shared→Prop}
 (hR:∀ s',(∀ b o,s₁.heap.get? b=some o→s'.heap.get? b=some o)→aT s₁ s'→R (.ok (.ret (.bool true))) s'):codeAny (model prog w) callerA (.call (.ref 769) ⟨[.ref l],[]⟩) R s₁:=by
 let c0:Cx:={ prog:=prog,w:=w,ν:=λn=>if n=201 then 1 else 0,νb:=λn hn=>by rw [if_neg (by omega)]; omega,νs:=rfl,hG:=s₁.heap,A:=callerA,fz:=λb o=>s₁.heap.get? b=some o,L:=0 }
 have F:=NF w.params
 have z:dy (ft w.params) [.ref 0]=true:=by
  have h:=F.chk
  rw [Bool.and_eq_true,Bool.and_eq_true] at h
  unfold dy
  rw [show Nat.beq ([SV.ref 0]:List SV).length (ft w.params).params.length=true from by nofun,h.1.1,h.1.2,h.2]; rfl
 have hpc:=TX w.params
 rw [← F.nm,← F.cl] at hpc
 refine ml (c:=c0) (fz':=c0.fz) (f:=769) (d:=ft w.params) (xs:=[.ref 0]) (vs:=[.ref l]) (ρ:=λn=>if n=0 then some l else none) (σ:=⟨[],⟨.e⟩,1⟩) (σ1:=Tf) (cs:=[(495740282211,1)]) PG.G (λ_ _ h=>h) (show callerA.depth<recursionLimit by decide) F ⟨⟨l,rfl,rfl⟩,trivial⟩ z hpc (λa o w=>bE w) (λm so a e _=>?_) (λh' tk m hn hk hl'=>?_) λenv ρ1 s1 eF eo x1 S1 sm1 E'=>?_
 ·exact nomatch (show (none:Option SO)=some so from by rw [← e,Hp.get_eq]; cases Nat.blt m 1024<;>rfl)
 ·have no:∀ m so,(Hp.get (⟨.e⟩:Hp) m)≠some so:=λm so e=>nomatch (show (none:Option SO)=some so from by rw [← e,Hp.get_eq]; cases Nat.blt m 1024<;>rfl)
  refine ⟨λb o e=>.of (hk _ _ e),λb o o' e e' m=>?_,λb o e=>hk _ _ e,λb o e=>e,⟨m,hn,hl'⟩,λo e=>absurd (bE e) (Nat.lt_irrefl _),λn so e=>absurd e (no n so),λn n' so so' a e=>absurd e (no n so),λn b e=>?_⟩
  ·have:o=o':=aD ((show s₁.heap.get? b=some o from e).symm.trans e')
   exact this▸m
  ·show n<1
   have e:(if n=0 then some l else none)=some b:=e
   by_cases q:n=0
   ·omega
   ·rw [if_neg q] at e; cases e
 rw [F.nm] at eo
 let c1:Cx:={ c0 with A:=callerA.deeper env,L:=s₁.heap.objs.size }
 have rm:Rm c1 (LF+2):=⟨⟨[env],PySem.Around.frames_deeper (below_caller s₁.heap).stack,λe he=>by
  rcases aj he with rfl
  exact ⟨by rw [eo.kind]; exact (λq=>nomatch q),_,eF,.inl rfl⟩⟩,rfl,(show callerA.depth+1+4 * (LF+2)+44<recursionLimit by decide),(show callerA.units+3+60 * (LF+2)+660<cLine by decide)⟩
 rw [Le]
 refine Eb (c:=c1) (rest:=[lst w.params 6,lst w.params 7,lst w.params 8,lst w.params 9]) PG (rm.le (by omega)) eo (x1 0 l rfl) hl hlen hint S1 (aA4 _) λν' ρ' s2 nu S2 eo2 sm2=>?_
 let c2:Cx:=c1.nu ν' nu.b nu.s
 have rm2:Rm c2 (LF+2):=rm.fz rfl rfl rfl λ_ _ e=>e
 refine bL (H9 (c:=c2) PG (rm2.le (by omega)) eo2 S2 (Y2 _) λd1 d2 d3 ρ3 s3 g1 g2 g3 S3 x3 sm3=>?_)
 have eo3:aG c2 ρ3 eH env:=eo2.move rfl λx k e a ha=>by
  rw [dv e] at ha ⊢
  exact x3 a ha
 refine LG (c:=c2) PG rm2 eo3 g1.ok g2.ok g3.ok S3 (TV _ g1 g2 g3) (λk h=>?_) (λk h=>?_) λs4 keep sm4=>hR s4 keep (sm1.trans (sm2.trans (sm3.trans sm4)))
 ·rcases h with rfl | rfl | rfl
  ·exact (sH _ g1).2
  ·exact (sH _ g2).2
  ·exact (sH _ g3).2
 ·rcases h with rfl | rfl | rfl
  ·exact (sH _ g1).1
  ·exact (sH _ g2).1
  ·exact (sH _ g3).1
end Mine
end
open PySem PySem.W PyProof.Rows PySem.Calls
theorem Mine.xw {vs:List Value} {l:List Int} (h:IntsAre vs l):vs.length=l.length∧∀ v∈vs,∃ i k,v=.int i k:=by
 induction h with
 | nil=>exact ⟨rfl,λv hv=>nomatch hv⟩
 | cons n t h ih =>
  refine ⟨by rw [List.length_cons,List.length_cons,ih.1],λv hv=>?_⟩
  rcases aM hv with rfl | hv
  ·exact ⟨_,_,rfl⟩
  ·exact ih.2 v hv
set_option maxHeartbeats 4000000 in
theorem PySem.Challenge.cw_xw0011_01_holds : PySem.Challenge.rw_xw0011_01.Holds := by
 refine holds_law Mine.hws λsaid=>?_
 refine holds_open (q:=Mine.hq) (loose:=Mine.sg) (Xt:=Mine.Z9) (XP:=XL Mine.hq []) (Yf:=Hook.obs Mine.Jc) (Ya:=Hook.val Mine.Jc) (YP:=Hook.says Mine.Jc) (N:=9788) Mine.US (Hook.of Mine.Jc) (Hook.keeps Mine.Jc) (λs e=>xl_of s (Bool.and_eq_true_iff.mp e).1) XL.keeps (by rfl) (by rfl) (by rfl) (λs e=>recFacts_of (Bool.and_eq_true_iff.mp e).2) (by rfl) said Mine.hch Mine.UU Mine.aAB ?hc
 intro w s₀ s₁ mg mb G Y fa o pm cd doc dV kV ho hd hcd hD hmg hg args vals as Q6 hlay hrd hwl ZE
 have hmg':mg "law" = some (.ref fa):=hmg
 have KX:=kIn_of Y
 refine Ground.open G ?_
 intro T B D TE TW
 clear hcd hD
 wrow_args Q6 hlay hrd hwl ZE
 refine enter_call ?_
 w_top on
 clear hd hmg Y G
 rename_i nums hs hlay0 hL0 hr1 hl2 a4 a3 l vals as hL ra w1 r0 hI hr hc1 hc2
 have hfa:fa=769:=by
  have:=mg_of (n := "law") (v:=.ref 769) KX T.g (by nofun)
  rw [this] at hmg'
  cases hmg'; rfl
 subst hfa
 have PG:Mine.aY (Mine.cG w.params) (Mine.KK w.params) mg mb s₁.heap:=Mine.aAH _ KX T (let ⟨_,⟨o,_,_,h,_⟩,_⟩:=(T.seer (by decide +kernel)).mods; ⟨o,h⟩)
 have hn:=Mine.xw hI
 refine Mine.Ir PG hL (by rw [hn.1]; omega) hn.2 λs' keep sm=>?_
 obtain ⟨h',t',rfl⟩:=sm
 refine ⟨.inl ⟨.bool true,.bool true,[],rfl,λcls=>?_,.bool true,?_,?_⟩,.of_keep keep,rfl,.of_eq hg⟩
 ·rfl
 ·wrow_post
 ·exact λ_=>⟨.nil,λa h=>nomatch h⟩
